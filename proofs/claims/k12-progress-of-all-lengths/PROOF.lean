import PyProof.Rows.All
import Wide.All
import OpenK.AllK
import Wide.FinOn
import KE.KStateDown
import Lean
import HandS.ForMost
import HandS.IsInst
import HandS.Wide
import HandS.NoneIn
import HandS.Zip
import HandS.Deep
import HandS.TupMul
import HandS.Codes
import PyProof.ReprRoads
import HandS.Dict
import HandS.More
import HandS.Defaults
import HandS.Ends
import HandS.HeadHook4
import HandS.Head2
import HandS.HeadEnd
import PyProof.P3Eq
import PySem.Challenge.RW_framecues_k12_progress_of_all_lengths
set_option Elab.async false
set_option linter.all false
set_option maxRecDepth 100000
set_option autoImplicit false
/-! Fq: a small Python over plain data: what it computes. -/
namespace Fq
open PySem

inductive D where
  | non | bl (b : Bool) | int (i : Int) | str (s : Str) | tup (xs : List D) | ref (n : Nat) | frl (xs : List D) | dct (ks : List Str) (ws : List D)

abbrev MH := List (List D)
abbrev En := List (Option D)
abbrev Fn := Nat → List D → MH → Option (D × MH)
structure Gm where
  con : Nat → D
  fn : Fn
  pat : Nat → Nat → List D → List D

def LIM : Nat := 1000000

mutual
def pdI : D → Option PyData
  | .non => some .none
  | .bl b => some (.bool b)
  | .int i => some (.int i)
  | .str s => some (.str s)
  | .tup xs => (pdIs xs).map .tuple
  | .ref _ => none
  | .frl _ => none
  | .dct _ _ => none
def pdIs : List D → Option (List PyData)
  | [] => some []
  | d :: r => (pdI d).bind fun a => (pdIs r).map fun b => a :: b
end
def pdT (h : MH) : D → Option PyData
  | .ref n => (h[n]?).bind fun xs => (pdIs xs).map .list
  | .non => pdI .non
  | .bl b => pdI (.bl b)
  | .int i => pdI (.int i)
  | .str s => pdI (.str s)
  | .tup xs => pdI (.tup xs)
  | .frl _ => none
  | .dct _ _ => none

def eqD (h : MH) (x y : D) : Option Bool :=
  (pdT h x).bind fun a => (pdT h y).bind fun b => if (SeqAt.shaped a && SeqAt.shaped b) = true then some (PyData.eqv a b) else none
def inP (a : PyData) : PyData → Option Bool
  | .tuple ds => if (SeqAt.shaped a && SeqAt.shaped (.tuple ds)) = true then some (ds.any fun z => PyData.eqv z a) else none
  | .list ds => if (SeqAt.shaped a && SeqAt.shaped (.list ds)) = true then some (ds.any fun z => PyData.eqv z a) else none
  | _ => none
def inD (h : MH) (x y : D) : Option Bool := (pdT h x).bind fun a => (pdT h y).bind fun b => inP a b

inductive BO where
  | add | sub | mul | fdiv | mod | pow
inductive CO where
  | lt | le | gt | ge | eq | ne | isin | notin
inductive BI where
  | len | abs | max2 | min2 | maxl | int | list | tuple | all | any | repr

def mulOk (i j : Int) : Bool := decide (i.natAbs < 2 ^ 64) || decide (j.natAbs < 2 ^ 64) || decide (i.natAbs.log2 + j.natAbs.log2 < 1000000)

def binD (o : BO) (x y : D) (h : MH) : Option (D × MH) :=
  match o, x, y with
  | .add, .int i, .int j => some (.int (i + j), h)
  | .add, .tup xs, .tup ys => if xs ≠ [] ∧ xs.length + ys.length ≤ LIM then some (.tup (xs ++ ys), h) else none
  | .add, .ref a, .ref b => match h[a]?, h[b]? with
    | some xs, some ys => if xs.length + ys.length ≤ LIM then some (.ref h.length, h ++ [xs ++ ys]) else none
    | _, _ => none
  | .sub, .int i, .int j => some (.int (i - j), h)
  | .mul, .int i, .int j => if mulOk i j = true then some (.int (i * j), h) else none
  | .mul, .tup xs, .int k => if xs ≠ [] ∧ 2 ≤ k ∧ k ≤ 1000 ∧ xs.length ≤ 1000 then some (.tup (List.replicate k.toNat xs).flatten, h) else none
  | .mul, .ref a, .int k => match h[a]? with
    | some xs => if 0 ≤ k ∧ k ≤ 1000 ∧ xs.length ≤ 1000 then some (.ref h.length, h ++ [(List.replicate k.toNat xs).flatten]) else none
    | none => none
  | .fdiv, .int i, .int j => if 0 < j ∧ j.natAbs.log2 < 9000 then some (.int (i / j), h) else none
  | .mod, .int i, .int j => if 0 < j then some (.int (i % j), h) else none
  | .pow, .int i, .int j => if 0 ≤ j ∧ j ≤ 1000000 ∧ i.natAbs < 2 ^ 64 then some (.int (i ^ j.toNat), h) else none
  | _, _, _ => none

def cmpD (o : CO) (h : MH) (x y : D) : Option Bool :=
  match o with
  | .lt => match x, y with | .int i, .int j => some (decide (i < j)) | _, _ => none
  | .le => match x, y with | .int i, .int j => some (decide (i ≤ j)) | _, _ => none
  | .gt => match x, y with | .int i, .int j => some (decide (j < i)) | _, _ => none
  | .ge => match x, y with | .int i, .int j => some (decide (j ≤ i)) | _, _ => none
  | .eq => eqD h x y
  | .ne => (eqD h x y).map (!·)
  | .isin => inD h x y
  | .notin => (inD h x y).map (!·)

def isNone : D → Bool
  | .non => true
  | _ => false
def tyn : D → String
  | .non => "NoneType"
  | .bl _ => "bool"
  | .int _ => "int"
  | .str _ => "str"
  | .tup _ => "tuple"
  | .ref _ => "list"
  | .frl _ => "list"
  | .dct _ _ => "dict"

/-- what a list or a tuple holds -/
def itemsD (h : MH) : D → Option (List D)
  | .tup xs => some xs
  | .ref n => h[n]?
  | .frl xs => some xs
  | _ => none
def isL : D → Bool
  | .ref _ => true
  | .frl _ => true
  | _ => false
def bools : List D → Option (List Bool)
  | [] => some []
  | .bl b :: r => (bools r).map (b :: ·)
  | _ :: _ => none
def intsD : List D → Option (List Int)
  | [] => some []
  | .int b :: r => (intsD r).map (b :: ·)
  | _ :: _ => none
def maxI : Int → List Int → Int
  | m, [] => m
  | m, x :: r => maxI (if x > m then x else m) r

/-- a list or a tuple whose repr is told here -/
def shows (d : PyData) : Bool := (match d with
  | .tuple _ => true
  | .list _ => true
  | _ => false) && d.showable && !d.hasDict && decide (d.depth ≤ 60) && decide (d.shown.length ≤ LIM)
def biD (b : BI) (xs : List D) (h : MH) : Option (D × MH) :=
  match b, xs with
  | .len, [x] => (itemsD h x).map fun ys => (.int ys.length, h)
  | .abs, [.int i] => some (.int (if i < 0 then -i else i), h)
  | .max2, [.int i, .int j] => some (.int (if j > i then j else i), h)
  | .min2, [.int i, .int j] => some (.int (if j < i then j else i), h)
  | .maxl, [.ref n] => (h[n]?).bind fun ys => (intsD ys).bind fun
    | [] => none
    | k :: r => some (.int (maxI k r), h)
  | .int, [.int i] => some (.int i, h)
  | .int, [.bl k] => some (.int (if k then 1 else 0), h)
  | .list, [x] => (itemsD h x).map fun ys => (.ref h.length, h ++ [ys])
  | .tuple, [.tup ys] => some (.tup ys, h)
  | .tuple, [.ref n] => (h[n]?).map fun ys => (.tup ys, h)
  | .all, [.ref n] => (h[n]?).bind fun ys => (bools ys).map fun bs => (.bl (bs.all id), h)
  | .any, [.ref n] => (h[n]?).bind fun ys => (bools ys).map fun bs => (.bl (bs.any id), h)
  | .repr, [x] => (pdT h x).bind fun d => if shows d = true then some (.str d.shown, h) else none
  | _, _ => none

def cutD (xs : List D) (lo hi : Option Int) : List D := (xs.drop (HT.sIx xs.length 0 lo)).take (HT.sIx xs.length xs.length hi - HT.sIx xs.length 0 lo)
def lkD : List Str → List D → Str → Option D
  | k :: ks, w :: ws, s => if k = s then some w else lkD ks ws s
  | _, _, _ => none
def idxD (h : MH) (x y : D) : Option D :=
  match y with
  | .int i => (itemsD h x).bind fun xs => L2.atI xs i
  | .str s => (match x with
    | .dct ks ws => lkD ks ws s
    | _ => none)
  | _ => none
def getD3 (x y z : D) : Option D :=
  match x, y with
  | .dct ks ws, .str s => some ((lkD ks ws s).getD z)
  | _, _ => none
def slcD (h : MH) (x : D) (lo hi : Option Int) : Option (D × MH) :=
  match x with
  | .tup xs => if ¬ (HT.sIx xs.length 0 lo = 0 ∧ HT.sIx xs.length xs.length hi = xs.length) then some (.tup (cutD xs lo hi), h) else none
  | .ref n => (h[n]?).map fun xs => (.ref h.length, h ++ [cutD xs lo hi])
  | .str z => if z.length ≤ 1000 then some (.str (Txt.slice z lo hi), h) else none
  | _ => none
def appD (h : MH) (x y : D) : Option MH :=
  match x with
  | .ref n => (h[n]?).bind fun xs => if xs.length ≤ LIM then some (h.set n (xs ++ [y])) else none
  | _ => none
def setD (h : MH) (x i y : D) : Option MH :=
  match x, i with
  | .ref n, .int k => (h[n]?).bind fun xs => (L2.ixN xs.length k).map fun j => h.set n (xs.set j y)
  | _, _ => none

/-! ### what is walked -/
def okR (i : Int) : Bool := decide (-4611686018427387904 ≤ i) && decide (i < 4611686018427387904)
theorem okR_of {i : Int} (h1 : -4611686018427387904 ≤ i) (h2 : i < 4611686018427387904) : okR i = true := by
  unfold okR; rw [decide_eq_true h1, decide_eq_true h2]; rfl
theorem okR_to {i : Int} (h : okR i = true) : -(2 ^ 62) ≤ i ∧ i < 2 ^ 62 := by
  unfold okR at h; simp only [Bool.and_eq_true, decide_eq_true_eq] at h; omega
theorem okR2_to {i j : Int} (h : (okR i && okR j) = true) : -(2 ^ 62) ≤ i ∧ i < 2 ^ 62 ∧ -(2 ^ 62) ≤ j ∧ j < 2 ^ 62 := by
  simp only [Bool.and_eq_true] at h
  have a := okR_to h.1
  have b := okR_to h.2
  exact ⟨a.1, a.2, b.1, b.2⟩
inductive Src where
  | sq (d : D) | rng (lo : Int) (n : Nat) | enum (d : D) | zip (a b : D)
def srcAt (h : MH) : Src → Nat → Option (Option D)
  | .sq d, i => (itemsD h d).map fun xs => xs[i]?
  | .rng lo n, i => some (if i < n then some (.int (lo + i)) else none)
  | .enum d, i => (itemsD h d).map fun xs => (xs[i]?).map fun x => .tup [.int i, x]
  | .zip a b, i => (itemsD h a).bind fun xs => (itemsD h b).map fun ys => (xs[i]?).bind fun x => (ys[i]?).map fun y => .tup [x, y]
def srcLen (h : MH) : Src → Nat
  | .sq d => ((itemsD h d).getD []).length
  | .rng _ n => n
  | .enum d => ((itemsD h d).getD []).length
  | .zip a b => min ((itemsD h a).getD []).length ((itemsD h b).getD []).length

inductive Fl where
  | nx | bk | ct | rt (d : D)
abbrev SR := Option (Fl × En × MH)
def forL (src : Src) (f : D → En → MH → SR) : Nat → Nat → En → MH → SR
  | 0, _, _, _ => none
  | k + 1, i, σ, h => (srcAt h src i).bind fun
    | none => some (.nx, σ, h)
    | some x => (f x σ h).bind fun (fl, σ', h') => match fl with
      | .nx => forL src f k (i + 1) σ' h'
      | .ct => forL src f k (i + 1) σ' h'
      | .bk => some (.nx, σ', h')
      | .rt d => some (.rt d, σ', h')
def lcL (src : Src) (f : D → MH → Option (Option D × MH)) : Nat → Nat → List D → MH → Option (List D × MH)
  | 0, _, _, _ => none
  | k + 1, i, acc, h => (srcAt h src i).bind fun
    | none => some (acc, h)
    | some x => (f x h).bind fun (o, h') => match o with
      | none => lcL src f k (i + 1) acc h'
      | some y => lcL src f k (i + 1) (acc ++ [y]) h'
def whlL (c : En → MH → Option (Bool × MH)) (f : En → MH → SR) : Nat → En → MH → SR
  | 0, _, _ => none
  | k + 1, σ, h => (c σ h).bind fun (b, h1) => match b with
    | false => some (.nx, σ, h1)
    | true => (f σ h1).bind fun (fl, σ', h') => match fl with
      | .nx => whlL c f k σ' h'
      | .ct => whlL c f k σ' h'
      | .bk => some (.nx, σ', h')
      | .rt d => some (.rt d, σ', h')

/-! ### the text -/
mutual
inductive Ex where
  | var (i : Nat) | int (i : Int) | str (s : Str) | bl (b : Bool) | non
  | glob (k : Nat)
  | tup (es : List Ex) | lst (es : List Ex)
  | bin (o : BO) (a b : Ex) | neg (a : Ex)
  | cmp (o : CO) (a b : Ex) | isN (a : Ex) | notN (a : Ex)
  | andE (es : List Ex) | orE (es : List Ex) | notE (a : Ex)
  | ife (c a b : Ex)
  | idx (a b : Ex) | slc (a lo hi : Ex) | absent
  | call (k : Nat) (es : List Ex) | callP (k p : Nat) (es ks : List Ex)
  | bi (b : BI) (es : List Ex) | isi (a : Ex) (T : String)
  | app (o e : Ex)
  | dsp (ks : List Str) (es : List Ex) | dget (o a b : Ex)
  | lc (elt : Ex) (tg : Tg) (it : It) (ifs : List Ex)
  | never
inductive Tg where
  | nm (i : Nat) | tp (ts : List Tg) | sub (o i : Ex)
inductive It where
  | ex (e : Ex) | rng1 (a : Ex) | rng2 (a b : Ex) | enum (a : Ex) | zip (a b : Ex)
end
inductive St where
  | asg (t : Tg) (e : Ex) | par (i j : Nat) (a b : Ex)
  | aug (i : Nat) (o : BO) (e : Ex)
  | expr (e : Ex) | ret (e : Ex) | retN
  | ift (c : Ex) (a b : List St)
  | whl (c : Ex) (b : List St) (fu : En → MH → Nat)
  | for (t : Tg) (it : It) (b : List St)
  | pass | brk | cont | never

def getB : Option (D × MH) → Option (Bool × MH)
  | some (.bl b, h) => some (b, h)
  | _ => none
def isAbs : Ex → Bool
  | .absent => true
  | _ => false
def partR (e : Ex) (r : Option (D × MH)) (h : MH) : Option (Option Int × MH) :=
  if isAbs e = true then some (none, h) else r.bind fun (x, h1) => match x with
    | .int i => some (some i, h1)
    | _ => none
/-! the slots of the targets -/
mutual
def tgS : Tg → List Nat
  | .nm i => [i]
  | .tp ts => tgSs ts
  | .sub _ _ => []
def tgSs : List Tg → List Nat
  | [] => []
  | t :: r => tgS t ++ tgSs r
end
def wipeD (σ : En) : List Nat → En
  | [] => σ
  | v :: vs => (wipeD σ vs).set v none

mutual
def ev (Γ : Gm) : Ex → En → MH → Option (D × MH)
  | .var i, σ, h => (σ[i]?).bind fun o => o.map fun d => (d, h)
  | .int i, _, h => some (.int i, h)
  | .str s, _, h => some (.str s, h)
  | .bl b, _, h => some (.bl b, h)
  | .non, _, h => some (.non, h)
  | .glob k, _, h => some (Γ.con k, h)
  | .tup es, σ, h => (evs Γ es σ h).bind fun (xs, h1) => if xs.length ≤ LIM then some (.tup xs, h1) else none
  | .lst es, σ, h => (evs Γ es σ h).bind fun (xs, h1) => if xs.length ≤ LIM then some (.ref h1.length, h1 ++ [xs]) else none
  | .bin o a b, σ, h => (ev Γ a σ h).bind fun (x, h1) => (ev Γ b σ h1).bind fun (y, h2) => binD o x y h2
  | .neg a, σ, h => (ev Γ a σ h).bind fun (x, h1) => match x with
    | .int i => some (.int (-i), h1)
    | _ => none
  | .cmp o a b, σ, h => (ev Γ a σ h).bind fun (x, h1) => (ev Γ b σ h1).bind fun (y, h2) => (cmpD o h2 x y).map fun r => (.bl r, h2)
  | .isN a, σ, h => (ev Γ a σ h).map fun (x, h1) => (.bl (isNone x), h1)
  | .notN a, σ, h => (ev Γ a σ h).map fun (x, h1) => (.bl (!isNone x), h1)
  | .andE es, σ, h => evAnd Γ es σ h
  | .orE es, σ, h => evOr Γ es σ h
  | .notE a, σ, h => (getB (ev Γ a σ h)).map fun (b, h1) => (.bl (!b), h1)
  | .ife c a b, σ, h => (getB (ev Γ c σ h)).bind fun (t, h1) => match t with
    | true => ev Γ a σ h1
    | false => ev Γ b σ h1
  | .idx a b, σ, h => (ev Γ a σ h).bind fun (x, h1) => (ev Γ b σ h1).bind fun (y, h2) => (idxD h2 x y).map fun d => (d, h2)
  | .slc a lo hi, σ, h => (ev Γ a σ h).bind fun (x, h1) => (partR lo (ev Γ lo σ h1) h1).bind fun (l, h2) => (partR hi (ev Γ hi σ h2) h2).bind fun (u, h3) => slcD h3 x l u
  | .absent, _, _ => none
  | .call k es, σ, h => (evs Γ es σ h).bind fun (xs, h1) => Γ.fn k xs h1
  | .callP k p es ks, σ, h => (evs Γ es σ h).bind fun (xs, h1) => (evs Γ ks σ h1).bind fun (zs, h2) => Γ.fn k (Γ.pat k p (xs ++ zs)) h2
  | .bi b es, σ, h => (evs Γ es σ h).bind fun (xs, h1) => biD b xs h1
  | .isi a T, σ, h => (ev Γ a σ h).bind fun (x, h1) => (L2.kitB (tyn x) T).map fun b => (.bl b, h1)
  | .app o e, σ, h => (ev Γ o σ h).bind fun (x, h1) => (ev Γ e σ h1).bind fun (y, h2) => (appD h2 x y).map fun h3 => (.non, h3)
  | .dsp ks es, σ, h => (evs Γ es σ h).bind fun (xs, h1) => if xs.length = ks.length then some (.dct ks xs, h1) else none
  | .dget o a b, σ, h => (ev Γ o σ h).bind fun (x, h1) => (ev Γ a σ h1).bind fun (y, h2) => (ev Γ b σ h2).bind fun (z, h3) => (getD3 x y z).map fun d => (d, h3)
  | .lc elt tg it ifs, σ, h => (evIt Γ it σ h).bind fun (src, h1) =>
      (lcL src (fun x h2 => (asgT Γ tg x (wipeD σ (tgS tg)) h2).bind fun (σ', h3) => (evTests Γ ifs σ' h3).bind fun (b, h4) => match b with
        | true => (ev Γ elt σ' h4).map fun (y, h5) => (some y, h5)
        | false => some (none, h4)) (srcLen h1 src + 1) 0 [] h1).bind fun (ys, h6) => if ys.length ≤ LIM then some (.ref h6.length, h6 ++ [ys]) else none
  | .never, _, _ => none
def evs (Γ : Gm) : List Ex → En → MH → Option (List D × MH)
  | [], _, h => some ([], h)
  | e :: r, σ, h => (ev Γ e σ h).bind fun (x, h1) => (evs Γ r σ h1).map fun (xs, h2) => (x :: xs, h2)
def evAnd (Γ : Gm) : List Ex → En → MH → Option (D × MH)
  | [], _, _ => none
  | e :: r, σ, h => match r with
    | [] => ev Γ e σ h
    | _ :: _ => (getB (ev Γ e σ h)).bind fun (t, h1) => match t with
      | true => evAnd Γ r σ h1
      | false => some (.bl false, h1)
def evOr (Γ : Gm) : List Ex → En → MH → Option (D × MH)
  | [], _, _ => none
  | e :: r, σ, h => match r with
    | [] => ev Γ e σ h
    | _ :: _ => (getB (ev Γ e σ h)).bind fun (t, h1) => match t with
      | true => some (.bl true, h1)
      | false => evOr Γ r σ h1
def evTests (Γ : Gm) : List Ex → En → MH → Option (Bool × MH)
  | [], _, h => some (true, h)
  | e :: _, σ, h => getB (ev Γ e σ h)
def asgT (Γ : Gm) : Tg → D → En → MH → Option (En × MH)
  | .nm i, d, σ, h => some (σ.set i (some d), h)
  | .tp ts, d, σ, h => (itemsD h d).bind fun xs => asgTs Γ ts xs σ h
  | .sub o i, d, σ, h => (ev Γ o σ h).bind fun (x, h1) => (ev Γ i σ h1).bind fun (y, h2) => (setD h2 x y d).map fun h3 => (σ, h3)
def asgTs (Γ : Gm) : List Tg → List D → En → MH → Option (En × MH)
  | [], ds, σ, h => match ds with
    | [] => some (σ, h)
    | _ :: _ => none
  | t :: r, ds, σ, h => match ds with
    | [] => none
    | d :: dr => (asgT Γ t d σ h).bind fun (σ1, h1) => asgTs Γ r dr σ1 h1
def evIt (Γ : Gm) : It → En → MH → Option (Src × MH)
  | .ex e, σ, h => (ev Γ e σ h).bind fun (x, h1) => if (itemsD h1 x).isSome = true then some (.sq x, h1) else none
  | .rng1 a, σ, h => (ev Γ a σ h).bind fun (x, h1) => match x with
    | .int j => if okR j = true then some (.rng 0 j.toNat, h1) else none
    | _ => none
  | .rng2 a b, σ, h => (ev Γ a σ h).bind fun (x, h1) => (ev Γ b σ h1).bind fun (y, h2) => match x, y with
    | .int i, .int j => if (okR i && okR j) = true then some (.rng i (j - i).toNat, h2) else none
    | _, _ => none
  | .enum a, σ, h => (ev Γ a σ h).bind fun (x, h1) => if (itemsD h1 x).isSome = true ∧ isL x = true then some (.enum x, h1) else none
  | .zip a b, σ, h => (ev Γ a σ h).bind fun (x, h1) => (ev Γ b σ h1).bind fun (y, h2) => if (itemsD h2 x).isSome = true ∧ (itemsD h2 y).isSome = true ∧ (!isL x || isL y) = true then some (.zip x y, h2) else none
end

/-- turns enough where the name at i falls -/
def fuelAt (τ : En) (i : Nat) : Nat := match τ[i]? with
  | some (some (.int k)) => k.toNat + 1
  | _ => 1
mutual
def exe (Γ : Gm) : St → En → MH → SR
  | .asg t e, σ, h => (ev Γ e σ h).bind fun (x, h1) => (asgT Γ t x σ h1).map fun (σ1, h2) => (.nx, σ1, h2)
  | .par i j a b, σ, h => (ev Γ a σ h).bind fun (x, h1) => (ev Γ b σ h1).map fun (y, h2) => (.nx, (σ.set i (some x)).set j (some y), h2)
  | .aug i o e, σ, h => (σ[i]?).bind fun q => q.bind fun x => (ev Γ e σ h).bind fun (y, h1) => match o with
    | .add => (match x, y with
      | .int a, .int b => some (.nx, σ.set i (some (.int (a + b))), h1)
      | _, _ => none)
    | .sub => (match x, y with
      | .int a, .int b => some (.nx, σ.set i (some (.int (a - b))), h1)
      | _, _ => none)
    | _ => none
  | .expr e, σ, h => (ev Γ e σ h).map fun (_, h1) => (.nx, σ, h1)
  | .ret e, σ, h => (ev Γ e σ h).map fun (x, h1) => (.rt x, σ, h1)
  | .retN, σ, h => some (.rt .non, σ, h)
  | .ift c a b, σ, h => (getB (ev Γ c σ h)).bind fun (t, h1) => match t with
    | true => exes Γ a σ h1
    | false => exes Γ b σ h1
  | .whl c b fu, σ, h => whlL (fun σ h => getB (ev Γ c σ h)) (fun σ h => exes Γ b σ h) (fu σ h) σ h
  | .for t it b, σ, h => (evIt Γ it σ h).bind fun (src, h1) =>
      forL src (fun x σ h => (asgT Γ t x σ h).bind fun (σ1, h2) => exes Γ b σ1 h2) (srcLen h1 src + 1) 0 σ h1
  | .pass, σ, h => some (.nx, σ, h)
  | .brk, σ, h => some (.bk, σ, h)
  | .cont, σ, h => some (.ct, σ, h)
  | .never, _, _ => none
def exes (Γ : Gm) : List St → En → MH → SR
  | [], σ, h => some (.nx, σ, h)
  | s :: r, σ, h => (exe Γ s σ h).bind fun (fl, σ1, h1) => match fl with
    | .nx => exes Γ r σ1 h1
    | .bk => some (.bk, σ1, h1)
    | .ct => some (.ct, σ1, h1)
    | .rt d => some (.rt d, σ1, h1)
end

/-- a def: how many names, its body -/
structure Df where
  ps : Nat
  n : Nat
  body : List St
def startD (n : Nat) (xs : List D) : En := xs.map some ++ List.replicate (n - xs.length) none
def outD : SR → Option (D × MH)
  | some (.rt d, _, h) => some (d, h)
  | some (.nx, _, h) => some (.non, h)
  | _ => none
/-- all defs of a text, to a depth of calls -/
def run (con : Nat → D) (pat : Nat → Nat → List D → List D) (dfs : Nat → Option Df) : Nat → Fn
  | 0 => fun _ _ _ => none
  | k + 1 => fun j xs h => (dfs j).bind fun df => if xs.length = df.ps then outD (exes ⟨con, run con pat dfs k, pat⟩ df.body (startD df.n xs) h) else none
end Fq

/-! Fq: how the plain data stand in the hand layer's heap; the judgements. -/
namespace Fq
open PySem PySem.Spec PyProof.Rows L2

/-- a list that nobody writes -/
def FzL (K : PySem.W.Frag) (H : Hp) (a : Addr) (xs : List V) : Prop :=
  (∃ o, H a = some (.frz o (.lst xs))) ∨
    ∃ (o : Obj) (its : Array Value) (n : Nat), K.lookup a = some o ∧ o.cls = .type "list" ∧ o.dict = none ∧ o.data = .seq its n ∧ its.size ≤ sizeLine ∧ Vals xs its.toList
theorem FzL.sq {K : PySem.W.Frag} {H : Hp} {a : Addr} {xs : List V} (h : FzL K H a xs) : SqL K H a xs := by
  rcases h with h | h
  · exact .inl (.inr h)
  · exact .inr h

mutual
inductive Rep (K : PySem.W.Frag) (H : Hp) (m : List Addr) : D → V → Prop
  | non : Rep K H m .non .non
  | bl (b : Bool) : Rep K H m (.bl b) (.bl b)
  | int (i : Int) : Rep K H m (.int i) (.int i)
  | str (s : Str) : Rep K H m (.str s) (.str s)
  | tup {xs : List D} {a : Addr} {vs : List V} : SqT K H a vs → RepL K H m xs vs → Rep K H m (.tup xs) (.ref a)
  | ref {n : Nat} {a : Addr} : m[n]? = some a → Rep K H m (.ref n) (.ref a)
  | frl {xs : List D} {a : Addr} {vs : List V} : FzL K H a vs → RepL K H m xs vs → Rep K H m (.frl xs) (.ref a)
  | dct {ks : List Str} {ws : List D} {a : Addr} {kvs : List (Key × V)} : kvs ≠ [] → H a = some (.dK kvs) → kvs.map (·.1) = ks.map Sum.inr → RepL K H m ws (kvs.map (·.2)) → Rep K H m (.dct ks ws) (.ref a)
inductive RepL (K : PySem.W.Frag) (H : Hp) (m : List Addr) : List D → List V → Prop
  | nil : RepL K H m [] []
  | cons {d : D} {ds : List D} {v : V} {vs : List V} : Rep K H m d v → RepL K H m ds vs → RepL K H m (d :: ds) (v :: vs)
end

structure Up (H : Hp) (m : List Addr) (H' : Hp) (m' : List Addr) : Prop where
  pre : ∀ (n : Nat) (a : Addr), m[n]? = some a → m'[n]? = some a
  tups : ∀ a xs, H a = some (.tup xs) → H' a = some (.tup xs)
  frzs : ∀ a o u, H a = some (.frz o u) → H' a = some (.frz o u)
  dks : ∀ a kvs, kvs ≠ [] → H a = some (.dK kvs) → H' a = some (.dK kvs)
structure Grow (H : Hp) (m : List Addr) (H' : Hp) (m' : List Addr) : Prop extends Up H m H' m' where
  keep : ∀ a o, H a = some o → a ∉ m → H' a = some o
  new : ∀ a, a ∈ m' → a ∈ m ∨ H a = none
theorem Grow.refl {H : Hp} {m : List Addr} : Grow H m H m := ⟨⟨fun _ _ h => h, fun _ _ h => h, fun _ _ _ h => h, fun _ _ _ h => h⟩, fun _ _ h _ => h, fun _ h => .inl h⟩
theorem Grow.trans {H H1 H2 : Hp} {m m1 m2 : List Addr} (a : Grow H m H1 m1) (b : Grow H1 m1 H2 m2) : Grow H m H2 m2 := by
  refine ⟨⟨fun n x h => b.pre n x (a.pre n x h), fun x xs h => b.tups x xs (a.tups x xs h), fun x o u h => b.frzs x o u (a.frzs x o u h), fun x kvs n h => b.dks x kvs n (a.dks x kvs n h)⟩, fun x o h n => ?_, fun x h => ?_⟩
  · refine b.keep x o (a.keep x o h n) fun z => ?_
    rcases a.new x z with q | q
    · exact n q
    · rw [h] at q; cases q
  · rcases b.new x h with q | q
    · exact a.new x q
    · by_cases n : x ∈ m
      · exact .inl n
      · cases e : H x with
        | none => exact .inr rfl
        | some o => rw [a.keep x o e n] at q; cases q

section
variable {K : PySem.W.Frag} {H H' : Hp} {m m' : List Addr}
theorem Up.sqt (g : Up H m H' m') {a : Addr} {vs : List V} (h : SqT K H a vs) : SqT K H' a vs := by
  rcases h with (h | ⟨o, h⟩) | h
  · exact .inl (.inl (g.tups _ _ h))
  · exact .inl (.inr ⟨o, g.frzs _ _ _ h⟩)
  · exact .inr h
theorem Up.fzl (g : Up H m H' m') {a : Addr} {vs : List V} (h : FzL K H a vs) : FzL K H' a vs := by
  rcases h with ⟨o, h⟩ | h
  · exact .inl ⟨o, g.frzs _ _ _ h⟩
  · exact .inr h
mutual
theorem Rep.up (g : Up H m H' m') : ∀ {d : D} {v : V}, Rep K H m d v → Rep K H' m' d v
  | _, _, .non => .non
  | _, _, .bl b => .bl b
  | _, _, .int i => .int i
  | _, _, .str s => .str s
  | _, _, .tup h r => .tup (g.sqt h) (RepL.up g r)
  | _, _, .ref h => .ref (g.pre _ _ h)
  | _, _, .frl h r => .frl (g.fzl h) (RepL.up g r)
  | _, _, .dct n h e r => .dct n (g.dks _ _ n h) e (RepL.up g r)
theorem RepL.up (g : Up H m H' m') : ∀ {ds : List D} {vs : List V}, RepL K H m ds vs → RepL K H' m' ds vs
  | _, _, .nil => .nil
  | _, _, .cons h r => .cons (Rep.up g h) (RepL.up g r)
end
theorem Grow.sqt (g : Grow H m H' m') {a : Addr} {vs : List V} (h : SqT K H a vs) : SqT K H' a vs := g.toUp.sqt h
theorem Grow.fzl (g : Grow H m H' m') {a : Addr} {vs : List V} (h : FzL K H a vs) : FzL K H' a vs := g.toUp.fzl h
theorem Rep.mono (g : Grow H m H' m') {d : D} {v : V} (r : Rep K H m d v) : Rep K H' m' d v := r.up g.toUp
theorem RepL.mono (g : Grow H m H' m') {ds : List D} {vs : List V} (r : RepL K H m ds vs) : RepL K H' m' ds vs := r.up g.toUp
theorem RepL.len {ds : List D} {vs : List V} (r : RepL K H m ds vs) : ds.length = vs.length := by
  induction ds generalizing vs with
  | nil => cases r; rfl
  | cons d ds ih => cases r with
    | cons a b => simp [ih b]
theorem RepL.get {ds : List D} {vs : List V} (r : RepL K H m ds vs) : ∀ {i : Nat} {d : D}, ds[i]? = some d → ∃ v, vs[i]? = some v ∧ Rep K H m d v := by
  induction ds generalizing vs with
  | nil => intro i d h; simp at h
  | cons a ds ih =>
    cases r with
    | cons p q =>
      intro i d h
      cases i with
      | zero => simp at h; subst h; exact ⟨_, rfl, p⟩
      | succ i => simpa using ih q (by simpa using h)
theorem RepL.app {ds es : List D} {vs ws : List V} (r : RepL K H m ds vs) (q : RepL K H m es ws) : RepL K H m (ds ++ es) (vs ++ ws) := by
  induction ds generalizing vs with
  | nil => cases r; exact q
  | cons a ds ih => cases r with
    | cons p s => exact .cons p (ih s)
theorem RepL.drop {ds : List D} {vs : List V} (r : RepL K H m ds vs) (n : Nat) : RepL K H m (ds.drop n) (vs.drop n) := by
  induction n generalizing ds vs with
  | zero => simpa using r
  | succ n ih => cases r with
    | nil => simpa using RepL.nil
    | cons p s => simpa using ih s
theorem RepL.take {ds : List D} {vs : List V} (r : RepL K H m ds vs) (n : Nat) : RepL K H m (ds.take n) (vs.take n) := by
  induction n generalizing ds vs with
  | zero => simpa using RepL.nil
  | succ n ih => cases r with
    | nil => simpa using RepL.nil
    | cons p s => simpa using RepL.cons p (ih s)
theorem RepL.set {ds : List D} {vs : List V} (r : RepL K H m ds vs) {d : D} {v : V} (p : Rep K H m d v) (n : Nat) : RepL K H m (ds.set n d) (vs.set n v) := by
  induction n generalizing ds vs with
  | zero => cases r with
    | nil => exact .nil
    | cons q s => exact .cons p s
  | succ n ih => cases r with
    | nil => exact .nil
    | cons q s => exact .cons q (ih s)
theorem RepL.rep {ds : List D} {vs : List V} (r : RepL K H m ds vs) : ∀ k : Nat, RepL K H m (List.replicate k ds).flatten (List.replicate k vs).flatten
  | 0 => by simpa using RepL.nil
  | k + 1 => by simpa [List.replicate_succ] using r.app (RepL.rep r k)
theorem RepL.cut {ds : List D} {vs : List V} (r : RepL K H m ds vs) (lo hi : Option Int) : RepL K H m (cutD ds lo hi) (cutV vs lo hi) := by
  unfold cutD cutV
  rw [← r.len]
  exact (r.drop _).take _
theorem RepL.nil_iff {ds : List D} {vs : List V} (r : RepL K H m ds vs) : vs = [] ↔ ds = [] := by
  cases r with
  | nil => simp
  | cons _ _ => simp

theorem nodup_at {l : List Addr} (nd : l.Nodup) {i j : Nat} {x : Addr} (a : l[i]? = some x) (b : l[j]? = some x) : i = j := by
  obtain ⟨h1, e1⟩ := List.getElem?_eq_some_iff.mp a
  obtain ⟨h2, e2⟩ := List.getElem?_eq_some_iff.mp b
  exact (List.getElem_inj nd).mp (e1.trans e2.symm)
structure HRel (K : PySem.W.Frag) (H : Hp) (m : List Addr) (h : MH) : Prop where
  len : m.length = h.length
  nd : m.Nodup
  at' : ∀ (n : Nat) (a : Addr) (xs : List D), m[n]? = some a → h[n]? = some xs → ∃ vs, H a = some (.lst vs) ∧ RepL K H m xs vs
theorem HRel.addr {h : MH} (R : HRel K H m h) {n : Nat} {xs : List D} (e : h[n]? = some xs) : ∃ a, m[n]? = some a := by
  have : n < m.length := by rw [R.len]; exact (List.getElem?_eq_some_iff.mp e).1
  exact ⟨m[n], List.getElem?_eq_getElem this⟩
theorem grow_new {p : Addr} {o : HO} (hp : H p = none) : Grow H m (upd H p o) m :=
  ⟨⟨fun _ _ h => h, fun a xs e => by rw [upd_ne (ne_of_none e hp)]; exact e, fun a o u e => by rw [upd_ne (ne_of_none e hp)]; exact e, fun a kvs _ e => by rw [upd_ne (ne_of_none e hp)]; exact e⟩, fun a o e _ => by rw [upd_ne (ne_of_none e hp)]; exact e, fun _ h => .inl h⟩
theorem HRel.mono {h : MH} (R : HRel K H m h) (g : Grow H m H' m) (k : ∀ a vs, H a = some (.lst vs) → H' a = some (.lst vs)) : HRel K H' m h :=
  ⟨R.len, R.nd, fun n a xs e1 e2 => let ⟨vs, e3, r⟩ := R.at' n a xs e1 e2; ⟨vs, k _ _ e3, r.mono g⟩⟩
theorem HRel.newTup {h : MH} (R : HRel K H m h) {p : Addr} {vs : List V} (hp : H p = none) : HRel K (upd H p (.tup vs)) m h :=
  R.mono (grow_new hp) fun a ws e => by rw [upd_ne (ne_of_none e hp)]; exact e
theorem grow_lst {p : Addr} {o : HO} (hp : H p = none) : Grow H m (upd H p o) (m ++ [p]) :=
  ⟨⟨fun n a h => by rw [List.getElem?_append_left (List.getElem?_eq_some_iff.mp h).1]; exact h, (grow_new (m := m) hp).tups, (grow_new (m := m) hp).frzs, (grow_new (m := m) hp).dks⟩, (grow_new (m := m) hp).keep, fun a h => by
    rcases List.mem_append.mp h with h | h
    · exact .inl h
    · have : a = p := by simpa using h
      subst this
      exact .inr hp⟩
theorem HRel.newLst {h : MH} (R : HRel K H m h) {p : Addr} {xs : List D} {vs : List V} (hp : H p = none) (r : RepL K H m xs vs) : HRel K (upd H p (.lst vs)) (m ++ [p]) (h ++ [xs]) := by
  have g : Grow H m (upd H p (.lst vs)) (m ++ [p]) := grow_lst hp
  refine ⟨by simp [R.len], ?_, fun n a ys e1 e2 => ?_⟩
  · rw [List.nodup_append]
    refine ⟨R.nd, by simp, fun a ha b hb => ?_⟩
    have : b = p := by simpa using hb
    subst this
    obtain ⟨n, e⟩ := List.mem_iff_getElem?.mp ha
    have : n < h.length := by rw [← R.len]; exact (List.getElem?_eq_some_iff.mp e).1
    obtain ⟨ws, e3, _⟩ := R.at' n a h[n] e (List.getElem?_eq_getElem this)
    exact ne_of_none e3 hp
  · by_cases hn : n < m.length
    · rw [List.getElem?_append_left hn] at e1
      rw [List.getElem?_append_left (by rw [← R.len]; exact hn)] at e2
      obtain ⟨ws, e3, q⟩ := R.at' n a ys e1 e2
      exact ⟨ws, by rw [upd_ne (ne_of_none e3 hp)]; exact e3, q.mono g⟩
    · have l1 := (List.getElem?_eq_some_iff.mp e1).1
      simp at l1
      have e : n = m.length := by omega
      subst e
      simp at e1
      subst e1
      rw [R.len] at e2
      simp at e2
      subst e2
      exact ⟨vs, upd_same, r.mono g⟩
theorem grow_set {n : Nat} {a : Addr} {ws : List V} {o : HO} (en : m[n]? = some a) (e : H a = some (.lst ws)) : Grow H m (upd H a o) m :=
  ⟨⟨fun _ _ h => h, fun b xs q => by rw [upd_ne (ne_of q e (by intro z; cases z))]; exact q, fun b ob u q => by rw [upd_ne (ne_of q e (by intro z; cases z))]; exact q, fun b kvs _ q => by rw [upd_ne (ne_of q e (by intro z; cases z))]; exact q⟩,
    fun b ob q n => by rw [upd_ne (fun z => n (by rw [z]; exact List.mem_of_getElem? en))]; exact q, fun _ h => .inl h⟩
theorem HRel.setAt {h : MH} (R : HRel K H m h) {n : Nat} {a : Addr} {ws vs : List V} {xs : List D} (en : m[n]? = some a) (e : H a = some (.lst ws)) (r : RepL K H m xs vs) : HRel K (upd H a (.lst vs)) m (h.set n xs) := by
  have g : Grow H m (upd H a (.lst vs)) m := grow_set en e
  refine ⟨by simp [R.len], R.nd, fun k b ys e1 e2 => ?_⟩
  by_cases hk : k = n
  · subst hk
    rw [en] at e1
    cases e1
    have : k < h.length := by rw [← R.len]; exact (List.getElem?_eq_some_iff.mp en).1
    rw [List.getElem?_set_self this] at e2
    cases e2
    exact ⟨vs, upd_same, r.mono g⟩
  · rw [List.getElem?_set_ne (Ne.symm hk)] at e2
    obtain ⟨us, e3, q⟩ := R.at' k b ys e1 e2
    have hb : b ≠ a := fun z => by
      subst z
      exact hk (nodup_at R.nd e1 en)
    exact ⟨us, by rw [upd_ne hb]; exact e3, q.mono g⟩

structure ERel (K : PySem.W.Frag) (H : Hp) (m : List Addr) (τ : En) (σ : L2.St) : Prop where
  len : τ.length = σ.length
  at' : ∀ (i : Nat) (d : D), τ[i]? = some (some d) → ∃ v, σ[i]? = some (some v) ∧ Rep K H m d v
theorem ERel.mono {τ : En} {σ : L2.St} (E : ERel K H m τ σ) (g : Grow H m H' m') : ERel K H' m' τ σ :=
  ⟨E.len, fun i d e => let ⟨v, e2, r⟩ := E.at' i d e; ⟨v, e2, r.mono g⟩⟩
theorem ERel.set {τ : En} {σ : L2.St} (E : ERel K H m τ σ) {d : D} {v : V} (r : Rep K H m d v) (i : Nat) : ERel K H m (τ.set i (some d)) (σ.set i (some v)) := by
  refine ⟨by simp [E.len], fun j e q => ?_⟩
  by_cases hj : j = i
  · subst hj
    by_cases hl : j < τ.length
    · rw [List.getElem?_set_self hl] at q
      cases q
      exact ⟨v, List.getElem?_set_self (by rw [← E.len]; exact hl), r⟩
    · rw [List.getElem?_eq_none (by simpa using hl)] at q
      cases q
  · rw [List.getElem?_set_ne (Ne.symm hj)] at q
    rw [List.getElem?_set_ne (Ne.symm hj)]
    exact E.at' j e q
theorem ERel.wipe {τ : En} {σ : L2.St} (E : ERel K H m τ σ) : ∀ vs : List Nat, ERel K H m (wipeD τ vs) (L2.wipe σ vs)
  | [] => E
  | v :: vs => by
    have W := ERel.wipe E vs
    unfold wipeD L2.wipe
    refine ⟨by simp [W.len], fun i d q => ?_⟩
    by_cases hi : i = v
    · subst hi
      by_cases hl : i < (wipeD τ vs).length
      · rw [List.getElem?_set_self hl] at q
        cases q
      · rw [List.getElem?_eq_none (by simpa using hl)] at q
        cases q
    · rw [List.getElem?_set_ne (Ne.symm hi)] at q
      rw [List.getElem?_set_ne (Ne.symm hi)]
      exact W.at' i d q
end

/-! ### judgements -/
section
variable (K : PySem.W.Frag)
/-- what follows a value -/
abbrev Then (H : Hp) (m : List Addr) (d : D) (h' : MH) (Q : VK) : Prop :=
  ∀ v H' m', Grow H m H' m' → HRel K H' m' h' → Rep K H' m' d v → Q v H'
abbrev ThenL (H : Hp) (m : List Addr) (ds : List D) (h' : MH) (Q : List V → Hp → Prop) : Prop :=
  ∀ vs H' m', Grow H m H' m' → HRel K H' m' h' → RepL K H' m' ds vs → Q vs H'
abbrev ThenB (H : Hp) (m : List Addr) (b : Bool) (h' : MH) (Q : Bool → Hp → Prop) : Prop :=
  ∀ H' m', Grow H m H' m' → HRel K H' m' h' → Q b H'
def TEok (t : TE) (g : En → MH → Option (D × MH)) : Prop :=
  ∀ σ H τ m h d h' Q, HRel K H m h → ERel K H m τ σ → g τ h = some (d, h') → Then K H m d h' Q → t σ H Q
def TAok (t : TA) (g : En → MH → Option (List D × MH)) : Prop :=
  ∀ σ H τ m h ds h' Q, HRel K H m h → ERel K H m τ σ → g τ h = some (ds, h') → ThenL K H m ds h' Q → t σ H Q
def TTok (t : TT) (g : En → MH → Option (Bool × MH)) : Prop :=
  ∀ σ H τ m h b h' Q, HRel K H m h → ERel K H m τ σ → g τ h = some (b, h') → ThenB K H m b h' Q → t σ H Q
def R2ok (r : R2) (g : D → D → MH → Option (D × MH)) : Prop :=
  ∀ H m h x y vx vy d h' Q, HRel K H m h → Rep K H m x vx → Rep K H m y vy → g x y h = some (d, h') → Then K H m d h' Q → r vx vy H Q
def RLok (r : List V → Hp → VK → Prop) (g : List D → MH → Option (D × MH)) : Prop :=
  ∀ H m h xs vs d h' Q, HRel K H m h → RepL K H m xs vs → g xs h = some (d, h') → Then K H m d h' Q → r vs H Q
end
def JE (X : Cx) (e : Expr) (g : En → MH → Option (D × MH)) : Prop := ∃ t, PE X e t ∧ TEok X.K t g
def JA (X : Cx) (es : List Expr) (g : En → MH → Option (List D × MH)) : Prop := ∃ t, PA X es t ∧ TAok X.K t g
def JT (X : Cx) (e : Expr) (g : En → MH → Option (Bool × MH)) : Prop := ∃ t, PT X e t ∧ TTok X.K t g
def JW (X : Cx) (e : Expr) (g : En → MH → Option (Bool × MH)) : Prop := ∃ t, PW X e t ∧ TTok X.K t g
def JO (X : Cx) (f : Value → Value → Sem Value) (g : D → D → MH → Option (D × MH)) : Prop := ∃ r, OpR X f r ∧ R2ok X.K r g
theorem bind_pair {α β γ : Type} {o : Option (α × β)} {f : α × β → Option γ} {r : γ} (h : o.bind f = some r) : ∃ x y, o = some (x, y) ∧ f (x, y) = some r := by
  cases o with
  | none => cases h
  | some p => exact ⟨p.1, p.2, rfl, h⟩
theorem map_pair {α β γ : Type} {o : Option (α × β)} {f : α × β → γ} {r : γ} (h : o.map f = some r) : ∃ x y, o = some (x, y) ∧ f (x, y) = r := by
  cases o with
  | none => cases h
  | some p => exact ⟨p.1, p.2, rfl, Option.some.inj h⟩
end Fq

set_option maxHeartbeats 4000000
/-! Fq: operators and built-ins keep the plain meaning. -/
namespace Fq
open PySem PySem.Spec PyProof.Rows L2

theorem lim_line : LIM ≤ sizeLine := by rw [sizeLine_eq]; decide
theorem lim_lt : LIM < sizeLine := by rw [sizeLine_eq]; decide

/-! ### data -/
section
variable {K : PySem.W.Frag} {H : Hp} {m : List Addr}
mutual
theorem dpI : ∀ {d : D} {v : V} {p : PyData}, Rep K H m d v → pdI d = some p → Dp K H v p
  | _, _, _, .non, e => by simp [pdI] at e; subst e; exact .non
  | _, _, _, .bl b, e => by simp [pdI] at e; subst e; exact .bl b
  | _, _, _, .int i, e => by simp [pdI] at e; subst e; exact .int i
  | _, _, _, .str s, e => by simp [pdI] at e; subst e; exact .str s
  | _, _, _, .tup h r, e => by
    simp only [pdI] at e
    obtain ⟨ps, e1, e2⟩ := Option.map_eq_some_iff.mp e
    subst e2
    exact .tup h (dpIs r e1)
  | _, _, _, .ref h, e => by simp [pdI] at e
  | _, _, _, .frl h r, e => by simp [pdI] at e
theorem dpIs : ∀ {ds : List D} {vs : List V} {ps : List PyData}, RepL K H m ds vs → pdIs ds = some ps → DpAll K H vs ps
  | _, _, _, .nil, e => by simp [pdIs] at e; subst e; exact .nil
  | _, _, _, .cons h r, e => by
    simp only [pdIs] at e
    obtain ⟨a, e1, e2⟩ := Option.bind_eq_some_iff.mp e
    obtain ⟨b, e3, e4⟩ := Option.map_eq_some_iff.mp e2
    subst e4
    exact .cons (dpI h e1) (dpIs r e3)
end
theorem dpT {h : MH} (R : HRel K H m h) {d : D} {v : V} {p : PyData} (r : Rep K H m d v) (e : pdT h d = some p) : Dp K H v p := by
  cases r with
  | non => exact dpI (m := m) .non e
  | bl b => exact dpI (m := m) (.bl b) e
  | int i => exact dpI (m := m) (.int i) e
  | str s => exact dpI (m := m) (.str s) e
  | tup a b => exact dpI (.tup a b) e
  | frl a b => simp [pdT] at e
  | dct => simp [pdT] at e
  | ref hn =>
    simp only [pdT] at e
    obtain ⟨xs, e1, e2⟩ := Option.bind_eq_some_iff.mp e
    obtain ⟨ps, e3, e4⟩ := Option.map_eq_some_iff.mp e2
    subst e4
    obtain ⟨vs, e5, r⟩ := R.at' _ _ _ hn e1
    exact .lst (.of e5) (dpIs r e3)
/-- a list's or a tuple's items -/
theorem items_of {h : MH} (R : HRel K H m h) {d : D} {v : V} {xs : List D} (r : Rep K H m d v) (e : itemsD h d = some xs) : ∃ a vs, v = .ref a ∧ (SqL K H a vs ∨ SqT K H a vs) ∧ RepL K H m xs vs := by
  cases r with
  | non => simp [itemsD] at e
  | bl b => simp [itemsD] at e
  | int i => simp [itemsD] at e
  | str s => simp [itemsD] at e
  | dct => simp [itemsD] at e
  | tup a b => simp only [itemsD] at e; cases e; exact ⟨_, _, rfl, .inr a, b⟩
  | frl a b => simp only [itemsD] at e; cases e; exact ⟨_, _, rfl, .inl a.sq, b⟩
  | ref hn =>
    simp only [itemsD] at e
    obtain ⟨vs, e5, r⟩ := R.at' _ _ _ hn e
    exact ⟨_, _, rfl, .inl (.of e5), r⟩
theorem atI_rep {xs : List D} {vs : List V} (r : RepL K H m xs vs) {i : Int} {d : D} (e : atI xs i = some d) : ∃ v, atI vs i = some v ∧ Rep K H m d v := by
  unfold atI at e ⊢
  obtain ⟨j, e1, e2⟩ := Option.bind_eq_some_iff.mp e
  obtain ⟨v, e3, q⟩ := r.get e2
  exact ⟨v, by rw [← r.len, e1]; exact e3, q⟩
theorem intsD_rep : ∀ {xs : List D} {vs : List V} {ns : List Int}, RepL K H m xs vs → intsD xs = some ns → vs = ns.map V.int
  | [], _, _, r, e => by cases r; simp [intsD] at e; subst e; rfl
  | .int i :: xs, _, _, r, e => by
    cases r with
    | cons p q =>
      simp only [intsD] at e
      obtain ⟨ns, e1, e2⟩ := Option.map_eq_some_iff.mp e
      subst e2
      cases p
      rw [intsD_rep q e1]; rfl
  | .non :: _, _, _, _, e => by simp [intsD] at e
  | .bl _ :: _, _, _, _, e => by simp [intsD] at e
  | .str _ :: _, _, _, _, e => by simp [intsD] at e
  | .tup _ :: _, _, _, _, e => by simp [intsD] at e
  | .ref _ :: _, _, _, _, e => by simp [intsD] at e
  | .frl _ :: _, _, _, _, e => by simp [intsD] at e
theorem bools_rep : ∀ {xs : List D} {vs : List V} {ns : List Bool}, RepL K H m xs vs → bools xs = some ns → vs = ns.map V.bl
  | [], _, _, r, e => by cases r; simp [bools] at e; subst e; rfl
  | .bl i :: xs, _, _, r, e => by
    cases r with
    | cons p q =>
      simp only [bools] at e
      obtain ⟨ns, e1, e2⟩ := Option.map_eq_some_iff.mp e
      subst e2
      cases p
      rw [bools_rep q e1]; rfl
  | .non :: _, _, _, _, e => by simp [bools] at e
  | .int _ :: _, _, _, _, e => by simp [bools] at e
  | .str _ :: _, _, _, _, e => by simp [bools] at e
  | .tup _ :: _, _, _, _, e => by simp [bools] at e
  | .ref _ :: _, _, _, _, e => by simp [bools] at e
  | .frl _ :: _, _, _, _, e => by simp [bools] at e
theorem maxI_ge : ∀ (r : List Int) (m0 : Int), m0 ≤ maxI m0 r ∧ (∀ y ∈ r, y ≤ maxI m0 r) ∧ (maxI m0 r = m0 ∨ maxI m0 r ∈ r)
  | [], m0 => ⟨Int.le_refl _, fun _ h => (nomatch h), .inl rfl⟩
  | x :: r, m0 => by
    obtain ⟨h1, h2, h3⟩ := maxI_ge r (if x > m0 then x else m0)
    unfold maxI
    refine ⟨?_, fun y hy => ?_, ?_⟩
    · split at h1 <;> split <;> omega
    · rcases List.mem_cons.mp hy with rfl | hy
      · split at h1 <;> split <;> omega
      · exact h2 y hy
    · rcases h3 with h3 | h3
      · rw [h3]
        split
        · exact .inr List.mem_cons_self
        · exact .inl rfl
      · exact .inr (List.mem_cons_of_mem _ h3)
end

/-! ### operators -/
section
variable {X : Cx}
theorem jo_add : JO X (binaryOp .Add) (binD .add) := by
  refine ⟨_, op_add.or (op_catT.or op_cat), ?_⟩
  intro H m h x y vx vy d h' Q R rx ry e k
  cases rx <;> cases ry <;> try (simp [binD] at e; done)
  · cases e
    exact .inl ⟨_, _, rfl, rfl, k _ _ _ .refl R (.int _)⟩
  · rename_i h1 r1 _ _ _ h2 r2
    simp only [binD] at e
    split at e
    · rename_i c
      cases e
      refine .inr (.inl ⟨_, _, _, _, rfl, rfl, h1, h2, fun z => c.1 (r1.nil_iff.mp z), ?_, fun z => ?_, fun z p hp => ?_⟩)
      · rw [← r1.len, ← r2.len]; exact Nat.le_trans c.2 lim_line
      · have := r2.nil_iff.mp z
        subst this
        rw [List.append_nil] at k
        exact k _ _ _ .refl R (.tup h1 r1)
      · exact k _ _ _ (grow_new hp) (R.newTup hp) (.tup (.of upd_same) ((r1.app r2).mono (grow_new hp)))
    · cases e
  · rename_i h1 _ _ h2
    simp only [binD] at e
    split at e
    · rename_i xs ys e1 e2
      split at e
      · rename_i c
        cases e
        obtain ⟨vs, a1, r1⟩ := R.at' _ _ _ h1 e1
        obtain ⟨ws, a2, r2⟩ := R.at' _ _ _ h2 e2
        refine .inr (.inr ⟨_, _, _, _, rfl, rfl, a1, a2, ?_, fun p hp => ?_⟩)
        · rw [← r1.len, ← r2.len]; exact Nat.le_trans c lim_line
        · refine k _ _ _ (grow_lst hp) (R.newLst hp (r1.app r2)) (.ref ?_)
          rw [← R.len]; simp
      · cases e
    · cases e
theorem jo_sub : JO X (binaryOp .Sub) (binD .sub) := by
  refine ⟨_, op_sub, ?_⟩
  intro H m h x y vx vy d h' Q R rx ry e k
  cases rx <;> cases ry <;> try (simp [binD] at e; done)
  cases e
  exact ⟨_, _, rfl, rfl, k _ _ _ .refl R (.int _)⟩
theorem jo_mul : JO X (binaryOp .Mult) (binD .mul) := by
  refine ⟨_, (op_mul.or op_mulW).or (op_repT.or op_rep), ?_⟩
  intro H m h x y vx vy d h' Q R rx ry e k
  cases rx <;> cases ry <;> try (simp [binD] at e; done)
  · simp only [binD] at e
    split at e
    · rename_i i j c
      cases e
      unfold mulOk at c
      simp only [Bool.or_eq_true, decide_eq_true_eq] at c
      rcases c with (c | c) | c
      · exact .inl (.inl ⟨_, _, rfl, rfl, .inl (by omega), k _ _ _ .refl R (.int _)⟩)
      · exact .inl (.inl ⟨_, _, rfl, rfl, .inr (by omega), k _ _ _ .refl R (.int _)⟩)
      · exact .inl (.inr ⟨_, _, rfl, rfl, c, k _ _ _ .refl R (.int _)⟩)
    · cases e
  · rename_i h1 r1 _
    simp only [binD] at e
    split at e
    · rename_i c
      cases e
      refine .inr (.inl ⟨_, _, _, rfl, rfl, h1, fun z => c.1 (r1.nil_iff.mp z), c.2.1, c.2.2.1, by rw [← r1.len]; exact c.2.2.2, fun p hp => ?_⟩)
      exact k _ _ _ (grow_new hp) (R.newTup hp) (.tup (.of upd_same) ((r1.rep _).mono (grow_new hp)))
    · cases e
  · rename_i h1 kk
    simp only [binD] at e
    split at e
    · rename_i xs e1
      split at e
      · rename_i c
        cases e
        obtain ⟨vs, a1, r1⟩ := R.at' _ _ _ h1 e1
        refine .inr (.inr ⟨_, _, _, rfl, rfl, a1, by omega, by omega, ?_, fun p hp => ?_⟩)
        · rw [← r1.len, sizeLine_eq]
          have : kk.toNat ≤ 1000 := by omega
          exact Nat.le_trans (Nat.mul_le_mul c.2.2 this) (by decide)
        · refine k _ _ _ (grow_lst hp) (R.newLst hp (r1.rep _)) (.ref ?_)
          rw [← R.len]; simp
      · cases e
    · cases e
theorem jo_fdiv : JO X (binaryOp .FloorDiv) (binD .fdiv) := by
  refine ⟨_, op_fdivW, ?_⟩
  intro H m h x y vx vy d h' Q R rx ry e k
  cases rx <;> cases ry <;> try (simp [binD] at e; done)
  simp only [binD] at e
  split at e
  · rename_i c
    cases e
    exact ⟨_, _, rfl, rfl, c, k _ _ _ .refl R (.int _)⟩
  · cases e
theorem jo_mod : JO X (binaryOp .Mod) (binD .mod) := by
  refine ⟨_, op_mod, ?_⟩
  intro H m h x y vx vy d h' Q R rx ry e k
  cases rx <;> cases ry <;> try (simp [binD] at e; done)
  simp only [binD] at e
  split at e
  · rename_i c
    cases e
    exact ⟨_, _, rfl, rfl, c, k _ _ _ .refl R (.int _)⟩
  · cases e
theorem jo_pow : JO X (binaryOp .Pow) (binD .pow) := by
  refine ⟨_, op_pow, ?_⟩
  intro H m h x y vx vy d h' Q R rx ry e k
  cases rx <;> cases ry <;> try (simp [binD] at e; done)
  simp only [binD] at e
  split at e
  · rename_i c
    cases e
    exact ⟨_, _, rfl, rfl, c, k _ _ _ .refl R (.int _)⟩
  · cases e

def opOf : BO → Operator
  | .add => .Add
  | .sub => .Sub
  | .mul => .Mult
  | .fdiv => .FloorDiv
  | .mod => .Mod
  | .pow => .Pow
theorem jo_bin : ∀ o : BO, JO X (binaryOp (opOf o)) (binD o)
  | .add => jo_add
  | .sub => jo_sub
  | .mul => jo_mul
  | .fdiv => jo_fdiv
  | .mod => jo_mod
  | .pow => jo_pow

def cmpM (o : CO) (x y : D) (h : MH) : Option (D × MH) := (cmpD o h x y).map fun r => (.bl r, h)
def cmpOf : CO → CmpOp
  | .lt => .Lt
  | .le => .LtE
  | .gt => .Gt
  | .ge => .GtE
  | .eq => .Eq
  | .ne => .NotEq
  | .isin => .In
  | .notin => .NotIn
theorem jc_lt : JO X (compareOp .Lt) (cmpM .lt) := by
  refine ⟨_, op_lt, ?_⟩
  intro H m h x y vx vy d h' Q R rx ry e k
  cases rx <;> cases ry <;> try (simp [cmpM, cmpD] at e; done)
  cases e
  exact ⟨_, _, rfl, rfl, k _ _ _ .refl R (.bl _)⟩
theorem jc_le : JO X (compareOp .LtE) (cmpM .le) := by
  refine ⟨_, op_le, ?_⟩
  intro H m h x y vx vy d h' Q R rx ry e k
  cases rx <;> cases ry <;> try (simp [cmpM, cmpD] at e; done)
  cases e
  exact ⟨_, _, rfl, rfl, k _ _ _ .refl R (.bl _)⟩
theorem jc_gt : JO X (compareOp .Gt) (cmpM .gt) := by
  refine ⟨_, op_gt, ?_⟩
  intro H m h x y vx vy d h' Q R rx ry e k
  cases rx <;> cases ry <;> try (simp [cmpM, cmpD] at e; done)
  cases e
  exact ⟨_, _, rfl, rfl, k _ _ _ .refl R (.bl _)⟩
theorem jc_ge : JO X (compareOp .GtE) (cmpM .ge) := by
  refine ⟨_, op_ge, ?_⟩
  intro H m h x y vx vy d h' Q R rx ry e k
  cases rx <;> cases ry <;> try (simp [cmpM, cmpD] at e; done)
  cases e
  exact ⟨_, _, rfl, rfl, k _ _ _ .refl R (.bl _)⟩
theorem eqD_some {h : MH} {x y : D} {b : Bool} (e : eqD h x y = some b) : ∃ p q, pdT h x = some p ∧ pdT h y = some q ∧ SeqAt.shaped p = true ∧ SeqAt.shaped q = true ∧ PyData.eqv p q = b := by
  unfold eqD at e
  obtain ⟨p, e1, e⟩ := Option.bind_eq_some_iff.mp e
  obtain ⟨q, e2, e⟩ := Option.bind_eq_some_iff.mp e
  split at e
  · rename_i c
    rw [Bool.and_eq_true] at c
    cases e
    exact ⟨p, q, e1, e2, c.1, c.2, rfl⟩
  · cases e
theorem jc_eq (hu : X.A.units + 64 < cLine) : JO X (compareOp .Eq) (cmpM .eq) := by
  refine ⟨_, op_eqD hu, ?_⟩
  intro H m h x y vx vy d h' Q R rx ry e k
  obtain ⟨b, e1, e2⟩ := Option.map_eq_some_iff.mp (show (eqD h x y).map _ = _ from e)
  cases e2
  obtain ⟨p, q, a1, a2, s1, s2, rfl⟩ := eqD_some e1
  exact ⟨p, q, dpT R rx a1, dpT R ry a2, s1, s2, k _ _ _ .refl R (.bl _)⟩
theorem jc_ne (hu : X.A.units + 64 < cLine) : JO X (compareOp .NotEq) (cmpM .ne) := by
  refine ⟨_, op_neD hu, ?_⟩
  intro H m h x y vx vy d h' Q R rx ry e k
  obtain ⟨b, e1, e2⟩ := Option.map_eq_some_iff.mp (show ((eqD h x y).map (!·)).map _ = _ from e)
  cases e2
  obtain ⟨b', e3, e2⟩ := Option.map_eq_some_iff.mp e1
  subst e2
  replace e1 := e3
  obtain ⟨p, q, a1, a2, s1, s2, rfl⟩ := eqD_some e1
  exact ⟨p, q, dpT R rx a1, dpT R ry a2, s1, s2, k _ _ _ .refl R (.bl _)⟩
/-- x in t, x not in t, t a tuple -/
def rInT (K : PySem.W.Frag) (f : Bool → Bool) : R2 := fun x y H Q => ∃ d ds, Dp K H x d ∧ Dp K H y (.tuple ds) ∧ SeqAt.shaped d = true ∧ SeqAt.shaped (.tuple ds) = true ∧ Q (.bl (f (ds.any fun z => PyData.eqv z d))) H
theorem op_inT (hu : X.A.units + 65 < cLine) : OpR X (compareOp .In) (rInT X.K id) := by
  intro pins s σ H x y v u Q I rx ry h
  obtain ⟨d, ds, hd, he, sd, se, q⟩ := h
  obtain ⟨as, a1⟩ := Dp.reads I d x v hd rx
  obtain ⟨bs, a2⟩ := Dp.reads I (.tuple ds) y u he ry
  have c := SeqAt.canLay_of_shaped se
  exact SeqAt.in_tuple_reads a2 a1 c (SeqAt.canLay_of_shaped sd) (room_in_shaped sd hu) ⟨.bl _, H, I, rfl, q⟩
theorem op_notInT (hu : X.A.units + 65 < cLine) : OpR X (compareOp .NotIn) (rInT X.K not) := by
  intro pins s σ H x y v u Q I rx ry h
  obtain ⟨d, ds, hd, he, sd, se, q⟩ := h
  obtain ⟨as, a1⟩ := Dp.reads I d x v hd rx
  obtain ⟨bs, a2⟩ := Dp.reads I (.tuple ds) y u he ry
  have c := SeqAt.canLay_of_shaped se
  exact SeqAt.notIn_tuple_reads a2 a1 c (SeqAt.canLay_of_shaped sd) (room_in_shaped sd hu) ⟨.bl _, H, I, rfl, q⟩
theorem inP_some {p q : PyData} {b : Bool} (e : inP p q = some b) : ∃ ds, (q = .tuple ds ∨ q = .list ds) ∧ SeqAt.shaped p = true ∧ SeqAt.shaped q = true ∧ b = ds.any fun z => PyData.eqv z p := by
  cases q with
  | tuple ds =>
    simp only [inP] at e
    split at e
    · rename_i c
      rw [Bool.and_eq_true] at c
      cases e
      exact ⟨ds, .inl rfl, c.1, c.2, rfl⟩
    · cases e
  | list ds =>
    simp only [inP] at e
    split at e
    · rename_i c
      rw [Bool.and_eq_true] at c
      cases e
      exact ⟨ds, .inr rfl, c.1, c.2, rfl⟩
    · cases e
  | _ => simp [inP] at e
theorem jc_in (hu : X.A.units + 65 < cLine) : JO X (compareOp .In) (cmpM .isin) := by
  refine ⟨_, (op_inT hu).or (op_inD hu), ?_⟩
  intro H m h x y vx vy d h' Q R rx ry e k
  obtain ⟨b, e1, e2⟩ := Option.map_eq_some_iff.mp (show (inD h x y).map _ = _ from e)
  cases e2
  unfold inD at e1
  obtain ⟨p, a1, e1⟩ := Option.bind_eq_some_iff.mp e1
  obtain ⟨q, a2, e1⟩ := Option.bind_eq_some_iff.mp e1
  obtain ⟨ds, c, s1, s2, rfl⟩ := inP_some e1
  rcases c with rfl | rfl
  · exact .inl ⟨p, ds, dpT R rx a1, dpT R ry a2, s1, s2, k _ _ _ .refl R (.bl _)⟩
  · exact .inr ⟨p, ds, dpT R rx a1, dpT R ry a2, s1, s2, k _ _ _ .refl R (.bl _)⟩
theorem jc_notin (hu : X.A.units + 65 < cLine) : JO X (compareOp .NotIn) (cmpM .notin) := by
  refine ⟨_, (op_notInT hu).or (op_notInD hu), ?_⟩
  intro H m h x y vx vy d h' Q R rx ry e k
  obtain ⟨b, e1, e2⟩ := Option.map_eq_some_iff.mp (show ((inD h x y).map (!·)).map _ = _ from e)
  cases e2
  obtain ⟨b', e3, e2⟩ := Option.map_eq_some_iff.mp e1
  subst e2
  replace e1 := e3
  unfold inD at e1
  obtain ⟨p, a1, e1⟩ := Option.bind_eq_some_iff.mp e1
  obtain ⟨q, a2, e1⟩ := Option.bind_eq_some_iff.mp e1
  obtain ⟨ds, c, s1, s2, rfl⟩ := inP_some e1
  rcases c with rfl | rfl
  · exact .inl ⟨p, ds, dpT R rx a1, dpT R ry a2, s1, s2, k _ _ _ .refl R (.bl _)⟩
  · exact .inr ⟨p, ds, dpT R rx a1, dpT R ry a2, s1, s2, k _ _ _ .refl R (.bl _)⟩
theorem jc_cmp (hu : X.A.units + 65 < cLine) : ∀ o : CO, JO X (compareOp (cmpOf o)) (cmpM o)
  | .lt => jc_lt
  | .le => jc_le
  | .gt => jc_gt
  | .ge => jc_ge
  | .eq => jc_eq (by omega)
  | .ne => jc_ne (by omega)
  | .isin => jc_in hu
  | .notin => jc_notin hu
theorem isNone_rep {K : PySem.W.Frag} {H : Hp} {m : List Addr} {d : D} {v : V} (r : Rep K H m d v) : decide (v = .non) = isNone d := by
  cases r <;> simp [isNone]
end
end Fq

set_option maxHeartbeats 4000000
/-! Fq: built-ins, and the judgements of expressions. -/
namespace Fq
open PySem PySem.Spec PyProof.Rows L2

def JB (X : Cx) (f : Value) (g : List D → MH → Option (D × MH)) : Prop := ∃ r, CallR X f r ∧ RLok X.K r g
section
variable {X : Cx}
theorem repl1 {K : PySem.W.Frag} {H : Hp} {m : List Addr} {x : D} {vs : List V} (r : RepL K H m [x] vs) : ∃ v, vs = [v] ∧ Rep K H m x v := by
  cases r with
  | cons a b => cases b; exact ⟨_, rfl, a⟩
theorem repl2 {K : PySem.W.Frag} {H : Hp} {m : List Addr} {x y : D} {vs : List V} (r : RepL K H m [x, y] vs) : ∃ v w, vs = [v, w] ∧ Rep K H m x v ∧ Rep K H m y w := by
  cases r with
  | cons a b =>
    obtain ⟨w, rfl, q⟩ := repl1 b
    exact ⟨_, _, rfl, a, q⟩
theorem jb_len : JB X (.builtin "len") (biD .len) := by
  refine ⟨_, call_len_seq, ?_⟩
  intro H m h xs vs d h' Q R r e k
  match xs, r, e with
  | [x], r, e =>
    simp only [biD] at e
    obtain ⟨ys, e1, e2⟩ := Option.map_eq_some_iff.mp e
    cases e2
    obtain ⟨v, rfl, q⟩ := repl1 r
    obtain ⟨a, ws, rfl, c, q2⟩ := items_of R q e1
    refine ⟨a, ws, rfl, c, ?_⟩
    rw [← q2.len]
    exact k _ _ _ .refl R (.int _)
  | [], _, e => simp [biD] at e
  | _ :: _ :: _, _, e => simp [biD] at e
theorem jb_abs : JB X (.builtin "abs") (biD .abs) := by
  refine ⟨_, call_abs, ?_⟩
  intro H m h xs vs d h' Q R r e k
  match xs, r, e with
  | [.int i], r, e =>
    cases e
    obtain ⟨v, rfl, q⟩ := repl1 r
    cases q
    exact ⟨_, rfl, k _ _ _ .refl R (.int _)⟩
  | [], _, e => simp [biD] at e
  | [.non], _, e => simp [biD] at e
  | [.bl _], _, e => simp [biD] at e
  | [.str _], _, e => simp [biD] at e
  | [.tup _], _, e => simp [biD] at e
  | [.ref _], _, e => simp [biD] at e
  | [.frl _], _, e => simp [biD] at e
  | _ :: _ :: _, _, e => simp [biD] at e
theorem jb_max2 (hc : X.calm = true) : JB X (.builtin "max") (biD .max2) := by
  refine ⟨_, call_max2 hc, ?_⟩
  intro H m h xs vs d h' Q R r e k
  unfold biD at e
  split at e <;> try (contradiction)
  cases e
  obtain ⟨v, w, rfl, q1, q2⟩ := repl2 r
  cases q1; cases q2
  exact ⟨_, _, rfl, k _ _ _ .refl R (.int _)⟩
theorem jb_min2 (hc : X.calm = true) : JB X (.builtin "min") (biD .min2) := by
  refine ⟨_, call_min2 hc, ?_⟩
  intro H m h xs vs d h' Q R r e k
  unfold biD at e
  split at e <;> try (contradiction)
  cases e
  obtain ⟨v, w, rfl, q1, q2⟩ := repl2 r
  cases q1; cases q2
  exact ⟨_, _, rfl, k _ _ _ .refl R (.int _)⟩
theorem jb_maxl (hc : X.calm = true) : JB X (.builtin "max") (biD .maxl) := by
  refine ⟨_, cr_max hc, ?_⟩
  intro H m h xs vs d h' Q R r e k
  unfold biD at e
  split at e <;> try (contradiction)
  obtain ⟨v, rfl, q⟩ := repl1 r
  obtain ⟨ys, e1, e⟩ := Option.bind_eq_some_iff.mp e
  obtain ⟨ns, e2, e⟩ := Option.bind_eq_some_iff.mp e
  cases q with
  | ref hn =>
    obtain ⟨ws, a1, r1⟩ := R.at' _ _ _ hn e1
    have ew := intsD_rep r1 e2
    subst ew
    cases ns with
    | nil => cases e
    | cons n0 ns =>
      cases e
      refine ⟨_, n0 :: ns, rfl, .of a1, by simp, fun mm hm hle => ?_⟩
      obtain ⟨h1, h2, h3⟩ := maxI_ge ns n0
      have e : mm = maxI n0 ns := by
        have b1 : maxI n0 ns ≤ mm := by
          rcases h3 with h3 | h3
          · rw [h3]; exact hle _ List.mem_cons_self
          · exact hle _ (List.mem_cons_of_mem _ h3)
        have b2 : mm ≤ maxI n0 ns := by
          rcases List.mem_cons.mp hm with rfl | hm
          · exact h1
          · exact h2 _ hm
        omega
      rw [e]
      exact k _ _ _ .refl R (.int _)
theorem jb_int : JB X (.type "int") (biD .int) := by
  refine ⟨_, call_int1, ?_⟩
  intro H m h xs vs d h' Q R r e k
  unfold biD at e
  split at e <;> try (contradiction)
  · cases e
    obtain ⟨v, rfl, q⟩ := repl1 r
    cases q
    exact .inl ⟨_, rfl, k _ _ _ .refl R (.int _)⟩
  · cases e
    obtain ⟨v, rfl, q⟩ := repl1 r
    cases q
    exact .inr ⟨_, rfl, k _ _ _ .refl R (.int _)⟩
theorem jb_list : JB X (.type "list") (biD .list) := by
  refine ⟨_, call_list_of, ?_⟩
  intro H m h xs vs d h' Q R r e k
  unfold biD at e
  split at e <;> try (contradiction)
  obtain ⟨ys, e1, e2⟩ := Option.map_eq_some_iff.mp e
  cases e2
  obtain ⟨v, rfl, q⟩ := repl1 r
  obtain ⟨a, ws, rfl, c, q2⟩ := items_of R q e1
  refine ⟨a, ws, rfl, c, fun p hp => ?_⟩
  refine k _ _ _ (grow_lst hp) (R.newLst hp q2) (.ref ?_)
  rw [← R.len]; simp
theorem jb_tuple : JB X (.type "tuple") (biD .tuple) := by
  refine ⟨_, call_tuple_of, ?_⟩
  intro H m h xs vs d h' Q R r e k
  unfold biD at e
  split at e <;> try (contradiction)
  · cases e
    obtain ⟨v, rfl, q⟩ := repl1 r
    cases q with
    | tup a b => exact ⟨_, _, rfl, .inr ⟨a, k _ _ _ .refl R (.tup a b)⟩⟩
  · obtain ⟨ys, e1, e2⟩ := Option.map_eq_some_iff.mp e
    cases e2
    obtain ⟨v, rfl, q⟩ := repl1 r
    cases q with
    | ref hn =>
      obtain ⟨ws, a1, r1⟩ := R.at' _ _ _ hn e1
      exact ⟨_, _, rfl, .inl ⟨.of a1, fun p hp => k _ _ _ (grow_new hp) (R.newTup hp) (.tup (.of upd_same) (r1.mono (grow_new hp)))⟩⟩
theorem jb_all (hc : X.calm = true) : JB X (.builtin "all") (biD .all) := by
  refine ⟨_, cr_all hc, ?_⟩
  intro H m h xs vs d h' Q R r e k
  unfold biD at e
  split at e <;> try (contradiction)
  obtain ⟨v, rfl, q⟩ := repl1 r
  obtain ⟨ys, e1, e⟩ := Option.bind_eq_some_iff.mp e
  obtain ⟨bs, e2, e⟩ := Option.map_eq_some_iff.mp e
  cases e
  cases q with
  | ref hn =>
    obtain ⟨ws, a1, r1⟩ := R.at' _ _ _ hn e1
    have ew := bools_rep r1 e2
    subst ew
    exact ⟨_, bs, rfl, .of a1, k _ _ _ .refl R (.bl _)⟩
theorem jb_any (hc : X.calm = true) : JB X (.builtin "any") (biD .any) := by
  refine ⟨_, cr_any hc, ?_⟩
  intro H m h xs vs d h' Q R r e k
  unfold biD at e
  split at e <;> try (contradiction)
  obtain ⟨v, rfl, q⟩ := repl1 r
  obtain ⟨ys, e1, e⟩ := Option.bind_eq_some_iff.mp e
  obtain ⟨bs, e2, e⟩ := Option.map_eq_some_iff.mp e
  cases e
  cases q with
  | ref hn =>
    obtain ⟨ws, a1, r1⟩ := R.at' _ _ _ hn e1
    have ew := bools_rep r1 e2
    subst ew
    exact ⟨_, bs, rfl, .of a1, k _ _ _ .refl R (.bl _)⟩

theorem cr_repr (gd : X.A.guards = some []) (hu : X.A.units + 65 < cLine) : CallR X (.builtin "repr") fun xs H Q => ∃ x d, xs = [x] ∧ Dp X.K H x d ∧ shows d = true ∧ Q (.str d.shown) H := by
  rintro pins s σ H xs us Q I r ⟨x, d, rfl, dp, sh, q⟩
  cases r with
  | cons ru rest =>
    cases rest
    rename_i u
    obtain ⟨as, rd⟩ := Dp.reads I d x u dp ru
    unfold shows at sh
    simp only [Bool.and_eq_true, Bool.not_eq_true', decide_eq_true_eq] at sh
    obtain ⟨⟨⟨⟨kind, shw⟩, nd⟩, dep⟩, len⟩ := sh
    have ref : ∃ a, u = .ref a := by
      cases rd <;> first | exact ⟨_, rfl⟩ | cases kind
    obtain ⟨a, rfl⟩ := ref
    exact repr_of_reads' rd shw (fun z => by rw [nd] at z; cases z) gd (by omega) (fun b o z => z) (fun h' t tk kp => ⟨.str d.shown, H, I.kept kp, ⟨t, rfl⟩, q⟩) (Nat.le_of_lt (Nat.lt_of_le_of_lt len lim_lt))
theorem jb_repr (gd : X.A.guards = some []) (hu : X.A.units + 65 < cLine) : JB X (.builtin "repr") (biD .repr) := by
  refine ⟨_, cr_repr gd hu, ?_⟩
  intro H m h xs vs d h' Q R r e k
  match xs, r, e with
  | [x], r, e =>
    obtain ⟨v, rfl, q⟩ := repl1 r
    obtain ⟨p, e1, e2⟩ := Option.bind_eq_some_iff.mp (show (pdT h x).bind _ = _ from e)
    split at e2
    · rename_i c
      cases e2
      exact ⟨v, p, rfl, dpT R q e1, c, k _ _ _ .refl R (.str _)⟩
    · cases e2
  | [], _, e => simp [biD] at e
  | _ :: _ :: _, _, e => simp [biD] at e
/-! ### small expressions -/
variable {e a b c : Expr} {es : List Expr} {pos p : Pos}
theorem je_var {i : Nat} {x : Str} (hN : X.N[i]? = some x) (hv : Vis X.env.scope x) (hd : (x == ("__debug__" : Str)) = false) (hcd : (x == ("__classdict__" : Str)) = false) :
    JE X (.Name x pos) fun τ h => (τ[i]?).bind fun o => o.map fun d => (d, h) := by
  refine ⟨_, pe_var hN hv hd hcd, ?_⟩
  intro σ H τ m h d h' Q R E e k
  obtain ⟨o, e1, e2⟩ := Option.bind_eq_some_iff.mp e
  obtain ⟨d', e3, e4⟩ := Option.map_eq_some_iff.mp e2
  cases e4
  subst e3
  obtain ⟨v, e5, r⟩ := E.at' _ _ e1
  exact ⟨v, e5, k _ _ _ .refl R r⟩
theorem je_con {v : V} {d : D} (hp : PE X e (tC v)) (hr : ∀ H m, Rep X.K H m d v) : JE X e fun _ h => some (d, h) := by
  refine ⟨_, hp, ?_⟩
  intro σ H τ m h d' h' Q R E e k
  cases e
  exact k _ _ _ .refl R (hr _ _)
theorem je_never {g : En → MH → Option (D × MH)} (hg : ∀ τ h, g τ h = none) : JE X e g :=
  ⟨fun _ _ _ => False, ⟨fun _ _ _ _ _ _ h => h.elim⟩, fun _ _ τ _ h _ _ _ _ _ e _ => by rw [hg] at e; cases e⟩
/-- what is not starred -/
def noStar : Expr → Bool
  | .Starred _ _ => false
  | _ => true
theorem starEach_plain {env : Env} : noStar e = true → starEach (e :: es) env = (false, eval e env) :: starEach es env := by
  intro h
  cases e <;> first | rfl | (simp [noStar] at h)
theorem back_plain {env : Env} : ∀ {es : List Expr}, es.all noStar = true → (backTo pos (starEach es env)).any (·.1) = false
  | [], _ => rfl
  | e :: es, h => by
    rw [List.all_cons, Bool.and_eq_true] at h
    rw [starEach_plain h.1]
    show (false || (backTo pos (starEach es env)).any (·.1)) = false
    rw [back_plain h.2]
    rfl
theorem back_all {env : Env} : ∀ {es : List Expr}, es.all noStar = true → (backTo pos (starEach es env)).all (fun x => !x.1) = true
  | [], _ => rfl
  | e :: es, h => by
    rw [List.all_cons, Bool.and_eq_true] at h
    rw [starEach_plain h.1]
    show (!false && (backTo pos (starEach es env)).all (fun x => !x.1)) = true
    rw [back_all h.2]
    rfl
theorem ja_nil : JA X [] fun _ h => some ([], h) := by
  refine ⟨_, pa_nil, ?_⟩
  intro σ H τ m h ds h' Q R E e k
  cases e
  exact k _ _ _ .refl R .nil
theorem ja_cons {ga : En → MH → Option (D × MH)} {gs : En → MH → Option (List D × MH)} (hn : noStar e = true) (ha : JE X e ga) (hs : JA X es gs) :
    JA X (e :: es) fun τ h => (ga τ h).bind fun (x, h1) => (gs τ h1).map fun (xs, h2) => (x :: xs, h2) := by
  obtain ⟨ta, pa, oa⟩ := ha
  obtain ⟨ts, ps, os⟩ := hs
  refine ⟨_, pa_cons pa ps (starEach_plain hn), ?_⟩
  intro σ H τ m h ds h' Q R E e k
  obtain ⟨x, h1, e1, e2⟩ := bind_pair e
  obtain ⟨xs, h2, e3, e4⟩ := map_pair e2
  cases e4
  refine oa σ H τ m h x h1 _ R E e1 fun v H1 m1 g1 R1 r1 => ?_
  refine os σ H1 τ m1 h1 xs _ _ R1 (E.mono g1) e3 fun vs H2 m2 g2 R2 r2 => ?_
  exact k _ _ _ (g1.trans g2) R2 (.cons (r1.mono g2) r2)
theorem je_tup {n : Nat} {gs : En → MH → Option (List D × MH)} (hs : JA X es gs) : JE X (.Tuple es n pos) fun τ h => (gs τ h).bind fun (xs, h1) => if xs.length ≤ LIM then some (.tup xs, h1) else none := by
  obtain ⟨ts, ps, os⟩ := hs
  refine ⟨_, pe_tup ps, ?_⟩
  intro σ H τ m h d h' Q R E e k
  obtain ⟨xs, h1, e1, e2⟩ := bind_pair e
  simp only at e2
  split at e2
  · rename_i c
    cases e2
    refine os σ H τ m h xs _ _ R E e1 fun vs H1 m1 g1 R1 r1 => ?_
    refine ⟨by rw [← r1.len]; exact Nat.le_trans c lim_line, fun q hq => ?_⟩
    exact k _ _ _ (g1.trans (grow_new hq)) (R1.newTup hq) (.tup (.of upd_same) (r1.mono (grow_new hq)))
  · cases e2
theorem je_lst {gs : En → MH → Option (List D × MH)} (hs : JA X es gs) : JE X (.List es pos) fun τ h => (gs τ h).bind fun (xs, h1) => if xs.length ≤ LIM then some (.ref h1.length, h1 ++ [xs]) else none := by
  obtain ⟨ts, ps, os⟩ := hs
  refine ⟨_, pe_lst ps, ?_⟩
  intro σ H τ m h d h' Q R E e k
  obtain ⟨xs, h1, e1, e2⟩ := bind_pair e
  simp only at e2
  split at e2
  · rename_i c
    cases e2
    refine os σ H τ m h xs _ _ R E e1 fun vs H1 m1 g1 R1 r1 => ?_
    refine ⟨by rw [← r1.len]; exact Nat.le_trans c lim_line, fun q hq => ?_⟩
    refine k _ _ _ (g1.trans (grow_lst hq)) (R1.newLst hq r1) (.ref ?_)
    rw [← R1.len]; simp
  · cases e2
theorem je_bin {o : BO} {ga gb : En → MH → Option (D × MH)} (ha : JE X a ga) (hb : JE X b gb) :
    JE X (.BinOp a (opOf o) b pos) fun τ h => (ga τ h).bind fun (x, h1) => (gb τ h1).bind fun (y, h2) => binD o x y h2 := by
  obtain ⟨ta, pa, oa⟩ := ha
  obtain ⟨tb, pb, ob⟩ := hb
  obtain ⟨r, pr, or⟩ := jo_bin (X := X) o
  refine ⟨_, pe_op pr pa pb, ?_⟩
  intro σ H τ m h d h' Q R E e k
  obtain ⟨x, h1, e1, e⟩ := bind_pair e
  obtain ⟨y, h2, e2, e⟩ := bind_pair e
  refine oa σ H τ m h x h1 _ R E e1 fun v H1 m1 g1 R1 r1 => ?_
  refine ob σ H1 τ m1 h1 y h2 _ R1 (E.mono g1) e2 fun w H2 m2 g2 R2 r2 => ?_
  exact or H2 m2 h2 x y v w d h' Q R2 (r1.mono g2) r2 e fun u H3 m3 g3 => k u H3 m3 ((g1.trans g2).trans g3)
theorem je_neg {ga : En → MH → Option (D × MH)} (ha : JE X a ga) :
    JE X (.UnaryOp .USub a pos) fun τ h => (ga τ h).bind fun (x, h1) => match x with
    | .int i => some (.int (-i), h1)
    | _ => none := by
  obtain ⟨ta, pa, oa⟩ := ha
  refine ⟨_, pe_un un_neg pa, ?_⟩
  intro σ H τ m h d h' Q R E e k
  obtain ⟨x, h1, e1, e⟩ := bind_pair e
  refine oa σ H τ m h x h1 _ R E e1 fun v H1 m1 g1 R1 r1 => ?_
  cases r1 <;> first | cases e | skip
  exact ⟨_, rfl, k _ _ _ g1 R1 (.int _)⟩
/-- the marks behind in -/
theorem nomarks {o : CO} (h : ∀ es k p, b ≠ .Set es k p) : behindInMarks (cmpOf o) b = false := by
  cases b <;> first | rfl | exact absurd rfl (h _ _ _)
theorem cmp_core {o : CO} {ga gb : En → MH → Option (D × MH)} {ta tb : TE} {r : R2} (oa : TEok X.K ta ga) (ob : TEok X.K tb gb) (or : R2ok X.K r (cmpM o)) {σ : L2.St} {H : Hp} {τ : En} {m : List Addr} {h h' : MH} {q : Bool} {Q : VK}
    (R : HRel X.K H m h) (E : ERel X.K H m τ σ) (e : (ga τ h).bind (fun (x, h1) => (gb τ h1).bind fun (y, h2) => (cmpD o h2 x y).map fun r => (D.bl r, h2)) = some (.bl q, h')) (k : Then X.K H m (.bl q) h' Q) : tOp r ta tb σ H Q := by
  obtain ⟨x, h1, e1, e⟩ := bind_pair e
  obtain ⟨y, h2, e2, e⟩ := bind_pair e
  refine oa σ H τ m h x h1 _ R E e1 fun v H1 m1 g1 R1 r1 => ?_
  refine ob σ H1 τ m1 h1 y h2 _ R1 (E.mono g1) e2 fun w H2 m2 g2 R2 r2 => ?_
  exact or H2 m2 h2 x y v w _ h' Q R2 (r1.mono g2) r2 e fun u H3 m3 g3 => k u H3 m3 ((g1.trans g2).trans g3)
theorem cmp_bl {o : CO} {ga gb : En → MH → Option (D × MH)} {τ : En} {h h' : MH} {d : D} (e : (ga τ h).bind (fun (x, h1) => (gb τ h1).bind fun (y, h2) => (cmpD o h2 x y).map fun r => (D.bl r, h2)) = some (d, h')) : ∃ q, d = .bl q := by
  obtain ⟨x, h1, e1, e⟩ := bind_pair e
  obtain ⟨y, h2, e2, e⟩ := bind_pair e
  obtain ⟨q, e3, e4⟩ := Option.map_eq_some_iff.mp e
  cases e4
  exact ⟨q, rfl⟩
theorem je_cmp {o : CO} {ga gb : En → MH → Option (D × MH)} (hu : X.A.units + 65 < cLine) (ha : JE X a ga) (hb : JE X b gb) (hm : ∀ es k p, b ≠ .Set es k p) :
    JE X (.Compare a [cmpOf o] [b] pos) fun τ h => (ga τ h).bind fun (x, h1) => (gb τ h1).bind fun (y, h2) => (cmpD o h2 x y).map fun r => (.bl r, h2) := by
  obtain ⟨ta, pa, oa⟩ := ha
  obtain ⟨tb, pb, ob⟩ := hb
  obtain ⟨r, pr, or⟩ := jc_cmp (X := X) hu o
  refine ⟨_, pe_cmpR pr pa pb (nomarks hm), ?_⟩
  intro σ H τ m h d h' Q R E e k
  obtain ⟨q, rfl⟩ := cmp_bl e
  exact cmp_core oa ob or R E e k
theorem getB_some {o : Option (D × MH)} {b : Bool} {h : MH} (e : getB o = some (b, h)) : o = some (.bl b, h) := by
  unfold getB at e
  split at e
  · cases e; rfl
  · cases e
theorem jt_cmp {o : CO} {ga gb : En → MH → Option (D × MH)} (hu : X.A.units + 65 < cLine) (ha : JE X a ga) (hb : JE X b gb) (hm : ∀ es k p, b ≠ .Set es k p) :
    JT X (.Compare a [cmpOf o] [b] pos) fun τ h => getB ((ga τ h).bind fun (x, h1) => (gb τ h1).bind fun (y, h2) => (cmpD o h2 x y).map fun r => (.bl r, h2)) := by
  obtain ⟨ta, pa, oa⟩ := ha
  obtain ⟨tb, pb, ob⟩ := hb
  obtain ⟨r, pr, or⟩ := jc_cmp (X := X) hu o
  refine ⟨_, pt_cmpR pr pa pb (nomarks hm), ?_⟩
  intro σ H τ m h q h' Q R E e k
  refine cmp_core (Q := fun v H' => ∃ k, v = .bl k ∧ Q k H') oa ob or R E (getB_some e) fun v H' m' g R' r' => ?_
  cases r'
  exact ⟨_, rfl, k _ _ g R'⟩
theorem je_isN {n : Nat} {p' : Pos} {ga : En → MH → Option (D × MH)} (ha : JE X a ga) :
    JE X (.Compare a [.Is] [.Constant .none n p'] pos) fun τ h => (ga τ h).map fun (x, h1) => (.bl (isNone x), h1) := by
  obtain ⟨ta, pa, oa⟩ := ha
  refine ⟨_, pe_cmp (pc_isN pa) (nobehind _ (by decide) (by decide)), ?_⟩
  intro σ H τ m h d h' Q R E e k
  obtain ⟨x, h1, e1, e⟩ := map_pair e
  cases e
  refine oa σ H τ m h x _ _ R E e1 fun v H1 m1 g1 R1 r1 => ?_
  show Q (.bl (decide (v = .non))) H1
  rw [isNone_rep r1]
  exact k _ _ _ g1 R1 (.bl _)
theorem jt_isN {n : Nat} {p' : Pos} {ga : En → MH → Option (D × MH)} (ha : JE X a ga) :
    JT X (.Compare a [.Is] [.Constant .none n p'] pos) fun τ h => getB ((ga τ h).map fun (x, h1) => (.bl (isNone x), h1)) := by
  obtain ⟨ta, pa, oa⟩ := ha
  refine ⟨_, pt_cmp (pc_isN pa) (nobehind _ (by decide) (by decide)), ?_⟩
  intro σ H τ m h d h' Q R E e k
  obtain ⟨x, h1, e1, e⟩ := map_pair (getB_some e)
  cases e
  refine oa σ H τ m h x _ _ R E e1 fun v H1 m1 g1 R1 r1 => ?_
  refine ⟨decide (v = .non), rfl, ?_⟩
  rw [isNone_rep r1]
  exact k _ _ g1 R1
theorem je_notN {n : Nat} {p' : Pos} {ga : En → MH → Option (D × MH)} (ha : JE X a ga) :
    JE X (.Compare a [.IsNot] [.Constant .none n p'] pos) fun τ h => (ga τ h).map fun (x, h1) => (.bl (!isNone x), h1) := by
  obtain ⟨ta, pa, oa⟩ := ha
  refine ⟨_, pe_cmp (pc_notN pa) (nobehind _ (by decide) (by decide)), ?_⟩
  intro σ H τ m h d h' Q R E e k
  obtain ⟨x, h1, e1, e⟩ := map_pair e
  cases e
  refine oa σ H τ m h x _ _ R E e1 fun v H1 m1 g1 R1 r1 => ?_
  show Q (.bl (!decide (v = .non))) H1
  rw [isNone_rep r1]
  exact k _ _ _ g1 R1 (.bl _)
theorem jt_notN {n : Nat} {p' : Pos} {ga : En → MH → Option (D × MH)} (ha : JE X a ga) :
    JT X (.Compare a [.IsNot] [.Constant .none n p'] pos) fun τ h => getB ((ga τ h).map fun (x, h1) => (.bl (!isNone x), h1)) := by
  obtain ⟨ta, pa, oa⟩ := ha
  refine ⟨_, pt_cmp (pc_notN pa) (nobehind _ (by decide) (by decide)), ?_⟩
  intro σ H τ m h d h' Q R E e k
  obtain ⟨x, h1, e1, e⟩ := map_pair (getB_some e)
  cases e
  refine oa σ H τ m h x _ _ R E e1 fun v H1 m1 g1 R1 r1 => ?_
  refine ⟨!decide (v = .non), rfl, ?_⟩
  rw [isNone_rep r1]
  exact k _ _ g1 R1
/-- a value's truth where it is a bool -/
theorem jt_val {g : En → MH → Option (D × MH)} (ha : JE X e g) (he : ∀ whole, isTrue e X.env whole = (do let v ← whole; standAt e.pos; holding [v] (truthy v))) : JT X e fun τ h => getB (g τ h) := by
  obtain ⟨t, pt, ot⟩ := ha
  refine ⟨_, pt_val pt he, ?_⟩
  intro σ H τ m h d h' Q R E e k
  refine ot σ H τ m h _ _ _ R E (getB_some e) fun v H1 m1 g1 R1 r1 => ?_
  cases r1
  exact ⟨_, rfl, k _ _ g1 R1⟩
theorem je_not {ga : En → MH → Option (D × MH)} (ha : JE X a ga) : JE X (.UnaryOp .Not a pos) fun τ h => (getB (ga τ h)).map fun (b, h1) => (.bl (!b), h1) := by
  obtain ⟨ta, pa, oa⟩ := ha
  refine ⟨_, pe_not pa, ?_⟩
  intro σ H τ m h d h' Q R E e k
  obtain ⟨x, h1, e1, e⟩ := map_pair e
  cases e
  refine oa σ H τ m h _ _ _ R E (getB_some e1) fun v H1 m1 g1 R1 r1 => ?_
  cases r1
  exact ⟨_, rfl, k _ _ _ g1 R1 (.bl _)⟩
theorem jt_not {ga : En → MH → Option (Bool × MH)} (ha : JT X a ga) : JT X (.UnaryOp .Not a pos) fun τ h => getB ((ga τ h).map fun (b, h1) => (.bl (!b), h1)) := by
  obtain ⟨ta, pa, oa⟩ := ha
  refine ⟨_, pt_not pa, ?_⟩
  intro σ H τ m h d h' Q R E e k
  obtain ⟨x, h1, e1, e⟩ := map_pair (getB_some e)
  cases e
  exact oa σ H τ m h _ _ _ R E e1 fun H1 m1 g1 R1 => k _ _ g1 R1
theorem je_ife {gc : En → MH → Option (Bool × MH)} {ga gb : En → MH → Option (D × MH)} (hc : JT X c gc) (ha : JE X a ga) (hb : JE X b gb) :
    JE X (.IfExp c a b pos) fun τ h => (gc τ h).bind fun (t, h1) => match t with
    | true => ga τ h1
    | false => gb τ h1 := by
  obtain ⟨tc, pc, oc⟩ := hc
  obtain ⟨ta, pa, oa⟩ := ha
  obtain ⟨tb, pb, ob⟩ := hb
  refine ⟨_, pe_ifExp pc pa pb, ?_⟩
  intro σ H τ m h d h' Q R E e k
  obtain ⟨t, h1, e1, e⟩ := bind_pair e
  refine oc σ H τ m h t h1 _ R E e1 fun H1 m1 g1 R1 => ?_
  cases t with
  | true => exact iteT (oa σ H1 τ m1 h1 d h' Q R1 (E.mono g1) e fun v H2 m2 g2 => k v H2 m2 (g1.trans g2))
  | false => exact iteF (ob σ H1 τ m1 h1 d h' Q R1 (E.mono g1) e fun v H2 m2 g2 => k v H2 m2 (g1.trans g2))
theorem je_one {op : BoolOp} {g : En → MH → Option (D × MH)} (ha : JE X a g) : JE X (.BoolOp op [a] pos) g := by
  obtain ⟨ta, pa, oa⟩ := ha
  exact ⟨_, pe_one pa, oa⟩
theorem je_and {ga gb : En → MH → Option (D × MH)} (ha : JE X a ga) (hb : JE X (.BoolOp .And (b :: es) pos) gb) :
    JE X (.BoolOp .And (a :: b :: es) pos) fun τ h => (getB (ga τ h)).bind fun (t, h1) => match t with
      | true => gb τ h1
      | false => some (.bl false, h1) := by
  obtain ⟨ta, pa, oa⟩ := ha
  obtain ⟨tb, pb, ob⟩ := hb
  refine ⟨_, pe_and pa pb, ?_⟩
  intro σ H τ m h d h' Q R E e k
  obtain ⟨t, h1, e1, e⟩ := bind_pair e
  refine oa σ H τ m h _ h1 _ R E (getB_some e1) fun v H1 m1 g1 R1 r1 => ?_
  cases r1
  refine ⟨_, rfl, ?_⟩
  cases t with
  | true => exact iteT (ob σ H1 τ m1 h1 d h' Q R1 (E.mono g1) e fun v H2 m2 g2 => k v H2 m2 (g1.trans g2))
  | false => cases e; exact iteF (k _ _ _ g1 R1 (.bl _))
theorem je_or {ga gb : En → MH → Option (D × MH)} (ha : JE X a ga) (hb : JE X (.BoolOp .Or (b :: es) pos) gb) :
    JE X (.BoolOp .Or (a :: b :: es) pos) fun τ h => (getB (ga τ h)).bind fun (t, h1) => match t with
      | true => some (.bl true, h1)
      | false => gb τ h1 := by
  obtain ⟨ta, pa, oa⟩ := ha
  obtain ⟨tb, pb, ob⟩ := hb
  refine ⟨_, pe_or pa pb, ?_⟩
  intro σ H τ m h d h' Q R E e k
  obtain ⟨t, h1, e1, e⟩ := bind_pair e
  refine oa σ H τ m h _ h1 _ R E (getB_some e1) fun v H1 m1 g1 R1 r1 => ?_
  cases r1
  refine ⟨_, rfl, ?_⟩
  cases t with
  | true => cases e; exact iteT (k _ _ _ g1 R1 (.bl _))
  | false => exact iteF (ob σ H1 τ m1 h1 d h' Q R1 (E.mono g1) e fun v H2 m2 g2 => k v H2 m2 (g1.trans g2))
theorem jw_and1 {ga : En → MH → Option (Bool × MH)} (ha : JT X a ga) : JW X (.BoolOp .And [a] pos) ga := by
  obtain ⟨ta, pa, oa⟩ := ha
  exact ⟨_, pw_and1 pa, oa⟩
theorem jw_or1 {ga : En → MH → Option (Bool × MH)} (ha : JT X a ga) : JW X (.BoolOp .Or [a] pos) ga := by
  obtain ⟨ta, pa, oa⟩ := ha
  exact ⟨_, pw_or1 pa, oa⟩
theorem jw_and {ga gb : En → MH → Option (Bool × MH)} (ha : JT X a ga) (hb : JW X (.BoolOp .And (b :: es) pos) gb) :
    JW X (.BoolOp .And (a :: b :: es) pos) fun τ h => (ga τ h).bind fun (t, h1) => match t with
      | true => gb τ h1
      | false => some (false, h1) := by
  obtain ⟨ta, pa, oa⟩ := ha
  obtain ⟨tb, pb, ob⟩ := hb
  refine ⟨_, pw_and pa pb, ?_⟩
  intro σ H τ m h d h' Q R E e k
  obtain ⟨t, h1, e1, e⟩ := bind_pair e
  refine oa σ H τ m h _ h1 _ R E e1 fun H1 m1 g1 R1 => ?_
  cases t with
  | true => exact iteT (ob σ H1 τ m1 h1 d h' Q R1 (E.mono g1) e fun H2 m2 g2 => k H2 m2 (g1.trans g2))
  | false => cases e; exact iteF (k _ _ g1 R1)
theorem jw_or {ga gb : En → MH → Option (Bool × MH)} (ha : JT X a ga) (hb : JW X (.BoolOp .Or (b :: es) pos) gb) :
    JW X (.BoolOp .Or (a :: b :: es) pos) fun τ h => (ga τ h).bind fun (t, h1) => match t with
      | true => some (true, h1)
      | false => gb τ h1 := by
  obtain ⟨ta, pa, oa⟩ := ha
  obtain ⟨tb, pb, ob⟩ := hb
  refine ⟨_, pw_or pa pb, ?_⟩
  intro σ H τ m h d h' Q R E e k
  obtain ⟨t, h1, e1, e⟩ := bind_pair e
  refine oa σ H τ m h _ h1 _ R E e1 fun H1 m1 g1 R1 => ?_
  cases t with
  | true => cases e; exact iteT (k _ _ g1 R1)
  | false => exact iteF (ob σ H1 τ m1 h1 d h' Q R1 (E.mono g1) e fun H2 m2 g2 => k H2 m2 (g1.trans g2))
theorem jw_pt {g : En → MH → Option (Bool × MH)} (h : JW X e g) : JT X e g := by
  obtain ⟨t, pt, ot⟩ := h
  exact ⟨_, pt.pt, ot⟩
/-- a dict by texts -/
theorem lkD_rep {K : PySem.W.Frag} {H : Hp} {m : List Addr} : ∀ {ks : List Str} {ws : List D} {kvs : List (Key × V)} (s : Str), kvs.map (·.1) = ks.map Sum.inr → RepL K H m ws (kvs.map (·.2)) →
    (∀ d, lkD ks ws s = some d → ∃ v, valV kvs (.inr s) = some v ∧ Rep K H m d v) ∧ (lkD ks ws s = none → valV kvs (.inr s) = none)
  | [], ws, kvs, s, e, r => by
    have : kvs = [] := by simpa using e
    subst this
    refine ⟨fun d h => ?_, fun _ => rfl⟩
    cases ws <;> cases h
  | k :: ks, [], kvs, s, e, r => by
    cases kvs with
    | nil => simp at e
    | cons p q => cases r
  | k :: ks, w :: ws, [], s, e, r => by simp at e
  | k :: ks, w :: ws, p :: kvs, s, e, r => by
    simp only [List.map_cons, List.cons.injEq] at e
    obtain ⟨e1, e2⟩ := e
    cases r with
    | cons r1 r2 =>
      obtain ⟨i1, i2⟩ := lkD_rep s e2 r2
      by_cases c : k = s
      · subst c
        refine ⟨fun d h => ?_, fun h => ?_⟩
        · simp only [lkD, if_true] at h
          cases h
          exact ⟨p.2, valV_pos e1, r1⟩
        · simp [lkD] at h
      · have n : p.1 ≠ Sum.inr s := by rw [e1]; intro z; injection z with z; exact c z
        have v : valV (p :: kvs) (.inr s) = valV kvs (.inr s) := by
          unfold valV
          rw [List.find?_cons_of_neg (by simpa using n)]
        rw [v]
        simp only [lkD, if_neg c]
        exact ⟨i1, i2⟩
theorem ix_dk (hu : X.A.units + 1 < cLine) : IxR X fun x y H Q => ∃ a v, x = .ref a ∧ DGet H a y (some v) ∧ Q v H := by
  rintro value slice pins s σ H x y v u Q I rx ry ⟨a, z, rfl, g, q⟩ hs
  cases (show v = Value.ref a from rx)
  exact tail_any (dict_typeIs I g) slot_dict_getitem.lookup (d_getItem hu I g ry fun w' s' I' r' => ⟨z, H, I', r', q⟩) hs
/-- a plain index -/
theorem plainIx (h : ∀ l u s q, b ≠ .Slice l u s q) : PlainIx b := by
  intro o i
  cases b <;> first | rfl | exact absurd rfl (h _ _ _ _)
theorem je_idx {ga gb : En → MH → Option (D × MH)} (hu : X.A.units + 1 < cLine) (ha : JE X a ga) (hb : JE X b gb) (hs : ∀ l u s q, b ≠ .Slice l u s q) :
    JE X (.Subscript a b pos) fun τ h => (ga τ h).bind fun (x, h1) => (gb τ h1).bind fun (y, h2) => (idxD h2 x y).map fun d => (d, h2) := by
  obtain ⟨ta, pa, oa⟩ := ha
  obtain ⟨tb, pb, ob⟩ := hb
  refine ⟨_, pe_ix ((ix_list.or ix_tup).or (ix_dk hu)) pa pb (plainIx hs), ?_⟩
  intro σ H τ m h d h' Q R E e k
  obtain ⟨x, h1, e1, e⟩ := bind_pair e
  obtain ⟨y, h2, e2, e⟩ := bind_pair e
  obtain ⟨d', e3, e4⟩ := Option.map_eq_some_iff.mp e
  cases e4
  refine oa σ H τ m h x h1 _ R E e1 fun v H1 m1 g1 R1 r1 => ?_
  refine ob σ H1 τ m1 h1 y _ _ R1 (E.mono g1) e2 fun w H2 m2 g2 R2 r2 => ?_
  have r1 := r1.mono g2
  unfold idxD at e3
  split at e3
  · obtain ⟨xs, e5, e6⟩ := Option.bind_eq_some_iff.mp e3
    obtain ⟨p, vs, rfl, c, q⟩ := items_of R2 r1 e5
    obtain ⟨u, a1, ru⟩ := atI_rep q e6
    cases r2
    rcases c with c | c
    · exact .inl (.inl ⟨_, _, _, _, rfl, rfl, c, a1, k _ _ _ (g1.trans g2) R2 ru⟩)
    · exact .inl (.inr ⟨_, _, _, _, rfl, rfl, c, a1, k _ _ _ (g1.trans g2) R2 ru⟩)
  · rename_i s
    split at e3
    · cases r2
      cases r1 with
      | dct n a e r =>
        obtain ⟨v, e5, ru⟩ := (lkD_rep s e r).1 _ e3
        refine .inr ⟨_, v, rfl, ?_, k _ _ _ (g1.trans g2) R2 ru⟩
        rw [← e5]
        exact DGet.k (k := .inr s) a
    · cases e3
  · cases e3
end
end Fq

set_option maxHeartbeats 4000000
/-! Fq: calls that stand under no open repr. -/
namespace Fq
open PySem PySem.Spec PyProof.Rows L2

/-- what a def keeps where no repr is open -/
structure FnG (P : Program) (w : World) (K : PySem.W.Frag) (mg : Str → Option Value) (base : Heap) (k : Nat) (f : Addr) (fd : FuncData) (ps : List Str) (sp : Sp) : Prop where
  nargs : ∀ vs H Q E, sp vs H Q E → vs.length = ps.length
  go : ∀ (A : Around) (fr : List Env) (s : Shared) (H : Hp) (ar : Args) (us : List Value) (vs : List V) (Q : VK) (E : XK), A.guards = some [] → Room k A → Env0 P w K mg base A fr s H → BindsTo s fd ar (ps.zip us) → Vals vs us → sp vs H Q E →
    codeAny (model P w) A (.call (.ref f) ar) (CR CX0 fr P w H s Q E) s
section
variable {X : Cx} {k n : Nat} {f : Addr} {fd : FuncData} {ps ks : List Str} {sp : Sp} {dvs : List V} {ds : List Value} {E : XK} {x : Str} {p pos : Pos} {e : Expr} {es : List Expr} {kws : List Keyword} {t tk : TA} {g : List Value → List Value → List Value} {gV : List V → List V → List V}
theorem FnG.here (F : FnG X.prog X.w X.K X.mg X.base k f fd ps sp) (gd : X.A.guards = some []) (rm : Room k X.A) {pins : List (Addr × Obj)} {σ : L2.St} {H : Hp} {s : Shared} {Q : VK} {us : List Value} {kw : List (Str × Value)} {as : List Value} {vs : List V}
    (I : Inv X pins σ H s) (bt : BindsTo s fd ⟨us, kw⟩ (ps.zip as)) (r : Vals vs as) (want : sp vs H Q E) : wpAny (model X.prog X.w) X.A (call (.ref f) us kw) (EP X pins σ Q) X.xe s := by
  have run := F.go X.A X.stack s H ⟨us, kw⟩ as vs Q E gd rm I.env0 bt r want
  apply wpAny_call
  apply codeAny_mono run
  intro res s' h
  match res, h with
  | .ok (.ret u), h => exact I.after h
/-- a call with positional arguments, the defaults behind them -/
theorem pe_callG (F : FnG X.prog X.w X.K X.mg X.base k f fd ps sp) (gd : X.A.guards = some []) (rm : Room k X.A) (hg : Gl X x) (hm : X.mg x = some (.ref f)) (kp : PySem.W.keepIn X.K (.ref f) = true) (hb : Binds X.K fd ps ds) (hd : Vals dvs ds)
    (ha : PA X (e :: es) t) (hdb : (x == ("__debug__" : Str)) = false) (h1 : starEach (e :: es) X.env = (false, eval e X.env) :: starEach es X.env) (h2 : (backTo pos (starEach es X.env)).any (·.1) = false) : PE X (.Call (.Name x p) (e :: es) [] pos) (tCall sp dvs E t) := by
  constructor
  intro pins s σ H Q I h
  apply wpAny_Call_Name_kw (ld_glob I hg hm ?_ hdb)
  apply PySem.W.callWith_K (h₀ := X.base) I.ok.mod.kin kp ?_ h1 h2
  apply thn (ha.run pos pins s σ H _ I h)
  rintro us s1 ⟨vs, H1, I1, r, q⟩
  have rr := r.append hd
  exact ⟨I1.kIn, F.here gd rm I1 (hb s1 us I1.kIn (rr.length.symm.trans (F.nargs _ _ _ _ q))) rr q⟩
theorem pe_callG0 (F : FnG X.prog X.w X.K X.mg X.base k f fd ps sp) (gd : X.A.guards = some []) (rm : Room k X.A) (hg : Gl X x) (hm : X.mg x = some (.ref f)) (kp : PySem.W.keepIn X.K (.ref f) = true) (hb : Binds X.K fd ps ds) (hd : Vals dvs ds)
    (hdb : (x == ("__debug__" : Str)) = false) : PE X (.Call (.Name x p) [] [] pos) (tCall sp dvs E tNil) := by
  constructor
  intro pins s σ H Q I h
  apply wpAny_Call_Name_kw (ld_glob I hg hm ?_ hdb)
  apply PySem.W.callWith_K0 I.kIn kp
  exact F.here gd rm I (hb s [] I.kIn (hd.length.symm.trans (F.nargs _ _ _ _ h))) hd h
theorem pe_callG0N (F : FnG X.prog X.w X.K X.mg X.base k f fd ps sp) (gd : X.A.guards = some []) (rm : Room k X.A) (hg : Gl X x) (hm : X.mg x = some (.ref f)) (kp : PySem.W.keepIn X.K (.ref f) = true) (hb : KBn X.K fd ps 0 ks g gV)
    (hk : PK X kws tk) (al : (backToKw pos (keywordEach kws X.env)).all (·.1.isSome) = true) (ek : (backToKw pos (keywordEach kws X.env)).filterMap (·.1) = ks) (hdb : (x == ("__debug__" : Str)) = false)
    (h2 : ((backTo pos (starEach [] X.env)).any (·.1) || (backToKw pos (keywordEach kws X.env)).any (·.1.isNone)) = false) :
    PE X (.Call (.Name x p) [] kws pos) (tCallN 0 ks.length sp gV E tNil tk) := by
  constructor
  intro pins s σ H Q I h
  apply wpAny_Call_Name_kw (ld_glob I hg hm ?_ hdb)
  apply PySem.W.callWith_KW0 (h₀ := X.base) I.ok.mod.kin kp al ?_ h2
  apply thn (hk.run pos pins s σ H _ I h)
  rintro ws s2 ⟨zs, H2, I2, rz, l1, l2, q2⟩
  refine ⟨I2.kIn, ?_⟩
  rw [ek]
  exact F.here gd rm I2 (hb.to s2 [] ws I2.kIn rfl (rz.length.symm.trans l2)) (hb.rel .nil rz) q2
/-- with keywords -/
theorem pe_callGN (F : FnG X.prog X.w X.K X.mg X.base k f fd ps sp) (gd : X.A.guards = some []) (rm : Room k X.A) (hg : Gl X x) (hm : X.mg x = some (.ref f)) (kp : PySem.W.keepIn X.K (.ref f) = true) (hb : KBn X.K fd ps n ks g gV)
    (ha : PA X (e :: es) t) (hk : PK X kws tk) (al : (backToKw pos (keywordEach kws X.env)).all (·.1.isSome) = true) (ek : (backToKw pos (keywordEach kws X.env)).filterMap (·.1) = ks) (hdb : (x == ("__debug__" : Str)) = false)
    (h1 : starEach (e :: es) X.env = (false, eval e X.env) :: starEach es X.env) (h2 : ((backTo pos (starEach (e :: es) X.env)).any (·.1) || (backToKw pos (keywordEach kws X.env)).any (·.1.isNone)) = false) :
    PE X (.Call (.Name x p) (e :: es) kws pos) (tCallN n ks.length sp gV E t tk) := by
  constructor
  intro pins s σ H Q I h
  apply wpAny_Call_Name_kw (ld_glob I hg hm ?_ hdb)
  apply PySem.W.callWith_KW (h₀ := X.base) I.ok.mod.kin kp al ?_ h2 h1
  apply thn (ha.run pos pins s σ H _ I h)
  rintro us s1 ⟨vs, H1, I1, r, q⟩
  apply thn (hk.run pos pins s1 σ H1 _ I1 q)
  rintro ws s2 ⟨zs, H2, I2, rz, l1, l2, q2⟩
  refine ⟨I2.kIn, ?_⟩
  rw [ek]
  exact F.here gd rm I2 (hb.to s2 us ws I2.kIn (r.length.symm.trans l1) (rz.length.symm.trans l2)) (hb.rel r rz) q2
end
section
variable {P : Program} {w : World} {K : PySem.W.Frag} {mg : Str → Option Value} {base : Heap} {x qual : Str} {params : Arguments} {body : List Stmt} {scope : Scope} {dvs : List V} {kws : List (Str × V)} {f : Addr} {fd : FuncData}
/-- by the body -/
theorem fun_okG {N ps : List Str} {k : Nat} {sp : Sp} (F : FunD K x qual params body scope dvs kws f fd) (S : FnScope N ps scope) (nargs : ∀ vs H Q E, sp vs H Q E → vs.length = ps.length)
    (hb : ∀ (cv : Value) (A : Around) (fr : List Env) (s : Shared) (H : Hp) (vs : List V) (Q : VK) (E : XK), A.guards = some [] → Room k (A.deeper (envOfC qual scope s.heap.objs.size f cv)) → sp vs H Q E →
      ∃ t, PSs (cxOf CX0 P w K mg base N qual scope f cv A fr s H E) body t ∧ t { nx := fun _ H' => Q .non H', rt := Q } (L2.start N vs) H) : FnG P w K mg base (k + 1) f fd ps sp := by
  obtain ⟨oc, od, dV, kV, dc, pm, an, cv, ct, sl, rfl, lk, inC, -, -⟩ := F.ex
  refine ⟨nargs, fun A fr s H ar us vs Q E gd rm env bt rel want => ?_⟩
  have old : ∀ b o, base.get? b = some o → s.heap.get? b = some o := fun b o z => (env.bs b o z).1
  have inK := env.mod.kin.keeps old
  have loc : ∀ y ∈ ps.zip us, scope.names.lookup y.1 = some .local ∨ (scope.names.lookup y.1 = some .cell ∧ ((cellsFrom (s.heap.objs.size + 1) scope.names []).lookup y.1).isSome = true) := by
    rintro ⟨a, u⟩ m
    exact (S.par a (List.of_mem_zip m).1).imp id fun c => ⟨c, PySem.W.cellsFrom_some _ _ _ (.inl c)⟩
  apply codeAny_call_function rm.depth (inK _ _ lk) rfl S.co S.gen rfl (PySem.W.codeRec_of inK inC)
  apply bt
  apply wpAny_newFunctionEnv_cells S.kind loc
  rintro env1 rfl s1 new
  refine ⟨(env.mod.nolimit.keeps old).keeps new.toInCall.keep, ?_⟩
  apply codeAny_func
  obtain ⟨t, walk, q⟩ := hb cv A fr s H vs Q E gd (rm.deeper _) want
  have I0 := inv_start (CX := CX0) (E := E) (f := f) S rm.hd env (nargs _ _ _ _ want) rel new
  apply wpAny_mono (walk.run [] s1 _ H _ I0 q)
  · intro fl s' z
    match fl, z with
    | .ret u, ⟨v, _, H', J, rv, q⟩ => exact ⟨v, H', J.os, J.bare, J.base, J.hok, rv, q⟩
    | .next, ⟨_, H', J, q⟩ => exact ⟨.non, H', J.os, J.bare, J.base, J.hok, rfl, q⟩
    | .brk, ⟨_, _, _, q⟩ => exact q.elim
    | .cont, ⟨_, _, _, q⟩ => exact q.elim
  · exact fun _ _ z => z
end
/-! ### the law's own call -/
section
variable {P : Program} {w : World} {K : PySem.W.Frag} {mg mb : Str → Option Value} {k : Nat} {fa a : Addr} {fd : FuncData} {x : Str} {sp : Sp} {s₁ : Shared} {vs : List Value} {ns : List Int}
/-- over an abstract heap that tracks the script or nothing -/
theorem enter_G (inK : K.In s₁.heap) (hns : s₁.heap.Ns mainGlobals mg) (hb : s₁.heap.Ns builtinsNs mb) (hbb : ∀ x : Str, x ≠ "__name__" → mb x = bootBuiltins x) (lim : s₁.heap.NoLimit) (gen : s₁.gens = #[])
    (obj : s₁.heap.get? a = some { cls := .type "list", data := .seq vs.toArray }) (rm : Room k callerA) (F : ∀ base : Heap, K.In base → base.Ns mainGlobals mg → FnG P w K mg base k fa fd [x] sp)
    (bind : ∀ (s : Shared) (u : Value), BindsTo s fd ⟨[u], []⟩ [(x, u)]) (H : Hp) (only : Only H) (want : sp [.ref a] H (fun v _ => v = .bl true) fun _ _ _ => False) (hok : HOk P w H s₁.heap)
    (mine : ∀ b u, H b = some u → b = a ∧ K.lookup a = none) :
    codeAny (model P w) callerA (.call (.ref fa) ⟨[.ref a], []⟩) (fun r s' => r = .ok (.ret (.bool true)) ∧ OldK s₁.heap s'.heap ∧ s'.os = s₁.os ∧ AllBare s'.gens) s₁ := by
  have free : ∀ b, (b = a → K.lookup a ≠ none) → H b = none := fun b z => by
    cases q : H b with
    | none => rfl
    | some u => exact absurd (mine b u q).2 (z (mine b u q).1)
  have noDict : ∀ {b : Addr} {o : Obj} {es : Array DictEntry} {n : Nat}, s₁.heap.get? b = some o → o.data = .dict es n → H b = none := fun {b o es n} z d => by
    cases q : H b with
    | none => rfl
    | some u =>
      rw [(mine b u q).1, obj] at z
      cases z
      exact absurd d (by simp)
  have spaces : ∀ {b : Addr} {m : Str → Option Value}, s₁.heap.Ns b m → (hidT s₁.heap H).Ns b m := by
    rintro b m ⟨o, es, n, z, d, r⟩
    exact ⟨o, es, n, hidT_get z (noDict z d), d, r⟩
  have inB : K.In (hidT s₁.heap H) := fun b o z => by
    refine hidT_get (inK b o z) (free b fun e => ?_)
    rw [← e, z]
    simp
  obtain ⟨mc, l1, l2⟩ := lim
  have env : Env0 P w K mg (hidT s₁.heap H) callerA [] s₁ H :=
    { frames := rfl, mod := ⟨inB, spaces hns, ⟨mb, spaces hb, hbb⟩, ⟨mc, spaces l1, l2⟩⟩, bs := fun b o z => of_hidT z, bsz := Nat.le_of_eq (hidT_size _ _), funs := trivial, frf := (fun b z => nomatch (show b ∈ ([] : List Addr) from z)), hok := hok, bare := .of_eq gen }
  apply codeAny_mono ((F _ inB (spaces hns)).go callerA [] s₁ H ⟨[.ref a], []⟩ [.ref a] [.ref a] _ _ rfl rm env (bind s₁ (.ref a)) (.cons rfl .nil) want)
  intro r s' h
  match r, h with
  | .ok (.ret u), ⟨v, H', os, bare, un, hok', rv, q⟩ =>
    cases (show v = .bl true from q)
    cases (show u = Value.bool true from rv)
    refine ⟨rfl, .of_keep fun b o z => ?_, os, bare⟩
    cases q : H b with
    | none => exact un.keep b o z q (fun m => by cases m) (by simp)
    | some u =>
      rcases only b with n | ⟨ob, xs, n⟩
      · rw [n] at q; cases q
      · have e1 := (hok b _ n).1
        have e2 := (hok' b _ (un.frzs b ob _ n)).1
        rw [z] at e1
        rw [e1]
        exact e2
theorem call_G (inK : K.In s₁.heap) (hns : s₁.heap.Ns mainGlobals mg) (hb : s₁.heap.Ns builtinsNs mb) (hbb : ∀ x : Str, x ≠ "__name__" → mb x = bootBuiltins x) (lim : s₁.heap.NoLimit) (gen : s₁.gens = #[])
    (obj : s₁.heap.get? a = some { cls := .type "list", data := .seq vs.toArray }) (it : IntsAre vs ns) (hl : ns.length ≤ sizeLine) (rm : Room k callerA) (F : ∀ base : Heap, K.In base → base.Ns mainGlobals mg → FnG P w K mg base k fa fd [x] sp)
    (bind : ∀ (s : Shared) (u : Value), BindsTo s fd ⟨[u], []⟩ [(x, u)]) (want : ∀ H : Hp, Only H → SqL K H a (ns.map V.int) → sp [.ref a] H (fun v _ => v = .bl true) fun _ _ _ => False) :
    codeAny (model P w) callerA (.call (.ref fa) ⟨[.ref a], []⟩) (fun r s' => r = .ok (.ret (.bool true)) ∧ OldK s₁.heap s'.heap ∧ s'.os = s₁.os ∧ AllBare s'.gens) s₁ := by
  have rel := vals_ints it
  cases lk : K.lookup a with
  | some o =>
    have z := (inK a o lk).symm.trans obj
    cases z
    have no : Only fun _ => none := fun _ => .inl rfl
    refine enter_G inK hns hb hbb lim gen obj rm F bind (fun _ => none) no (want _ no (.inr ?_)) (fun b u z => by cases z) fun b u z => by cases z
    exact ⟨_, vs.toArray, _, lk, rfl, rfl, rfl, by rw [List.size_toArray, it.length]; exact hl, by simpa using rel⟩
  | none =>
    let H : Hp := fun b => if b = a then some (.frz { cls := .type "list", data := .seq vs.toArray } (.lst (ns.map V.int))) else none
    have at_ : H a = some (.frz { cls := .type "list", data := .seq vs.toArray } (.lst (ns.map V.int))) := if_pos rfl
    have off : ∀ b, b ≠ a → H b = none := fun b n => if_neg n
    have mine : ∀ b u, H b = some u → b = a := fun b u z => Classical.byContradiction fun n => by rw [off b n] at z; cases z
    have only : Only H := fun b => by
      by_cases e : b = a
      · exact .inr ⟨_, _, e ▸ at_⟩
      · exact .inl (off b e)
    refine enter_G inK hns hb hbb lim gen obj rm F bind H only (want H only (.inl (.inr ⟨_, at_⟩))) (fun b u z => ?_) fun b u z => ⟨mine b u z, lk⟩
    cases mine b u z
    cases at_.symm.trans z
    exact ⟨obj, by rw [List.length_map]; exact hl, vs, _, rel, obj⟩
end
/-- the goal that the head leaves -/
theorem walk_G {l : PySem.W.OpenLaw} {n k : Nat} {q : Program} {loose : List Str} {XP : (Str → Option Value) → Heap → Prop} {YP : World → Heap → Prop} {d : DefRec} {x : Str} (hn : l.most = some n) (hn2 : n ≤ sizeLine) (nd : d.params.defaults = []) (rm : Room k callerA)
    (F : ∀ (w : World) (mg : Str → Option Value) (fa : Addr) (h : Heap), YP w h → h.Ns mainGlobals mg → mg d.name = some (.ref fa) → ∃ (K : PySem.W.Frag) (fd : FuncData) (sp : Sp), K.In h ∧ (∀ (s : Shared) (u : Value), BindsTo s fd ⟨[u], []⟩ [(x, u)]) ∧
      (∀ (H : Hp) (a : Addr) (ns : List Int), ns.length ≤ n → Only H → SqL K H a (ns.map V.int) → sp [.ref a] H (fun v _ => v = .bl true) fun _ _ _ => False) ∧ ∀ base : Heap, K.In base → base.Ns mainGlobals mg → FnG l.prog w K mg base k fa fd [x] sp) :
    PySem.W.WalkO q loose XP YP l.row.toRowW d [] (fun f vs => PySem.call f vs) := by
  apply Att.attach_call hn nd
  intro w s₀ s₁ mg mb fa o pm cd doc a vs ns G Y ho hd hcd hmg obj it hl gen
  obtain ⟨K, fd, sp, inK, bind, want, FK⟩ := F w mg fa _ Y G.T.g hmg
  exact call_G inK G.T.g G.T.b G.T.builtins G.T.nolimit gen obj it (Nat.le_trans hl hn2) rm FK bind fun H only S => want H a ns hl only S
end Fq

set_option maxHeartbeats 4000000
/-! Fq: calls, slices, targets, what is walked, comprehensions, statements. -/
namespace Fq
open PySem PySem.Spec PyProof.Rows L2

section
variable {X : Cx} {e a b c o : Expr} {es : List Expr} {pos p apos cpos : Pos} {x : Str}
/-! ### calls -/
theorem je_callB {id : String} {g : List D → MH → Option (D × MH)} {ga : En → MH → Option (List D × MH)} (hj : JB X (.builtin id) g) (hg : Gl X x) (hm : X.mg x = none) (hv : bootBuiltins x = some (.builtin id))
    (ha : JA X (e :: es) ga) (hs : (e :: es).all noStar = true) (hn : x ≠ "__name__") (hdb : (x == ("__debug__" : Str)) = false) :
    JE X (.Call (.Name x p) (e :: es) [] pos) fun τ h => (ga τ h).bind fun (xs, h1) => g xs h1 := by
  obtain ⟨r, pr, or⟩ := hj
  obtain ⟨t, pt, ot⟩ := ha
  rw [List.all_cons, Bool.and_eq_true] at hs
  refine ⟨_, pe_callB pr hg hm hv pt hn hdb (starEach_plain hs.1) (back_plain hs.2), ?_⟩
  intro σ H τ m h d h' Q R E e k
  obtain ⟨xs, h1, e1, e⟩ := bind_pair e
  refine ot σ H τ m h xs h1 _ R E e1 fun vs H1 m1 g1 R1 r1 => ?_
  exact or H1 m1 h1 xs vs d h' Q R1 r1 e fun v H2 m2 g2 => k v H2 m2 (g1.trans g2)
theorem je_callT {T : String} {g : List D → MH → Option (D × MH)} {ga : En → MH → Option (List D × MH)} (hj : JB X (.type T) g) (hg : Gl X x) (hm : X.mg x = none) (hv : bootBuiltins x = some (.type T))
    (ha : JA X (e :: es) ga) (hs : (e :: es).all noStar = true) (hn : x ≠ "__name__") (hdb : (x == ("__debug__" : Str)) = false) :
    JE X (.Call (.Name x p) (e :: es) [] pos) fun τ h => (ga τ h).bind fun (xs, h1) => g xs h1 := by
  obtain ⟨r, pr, or⟩ := hj
  obtain ⟨t, pt, ot⟩ := ha
  rw [List.all_cons, Bool.and_eq_true] at hs
  refine ⟨_, pe_callTy pr hg hm hv pt hn hdb (starEach_plain hs.1) (back_plain hs.2), ?_⟩
  intro σ H τ m h d h' Q R E e k
  obtain ⟨xs, h1, e1, e⟩ := bind_pair e
  refine ot σ H τ m h xs h1 _ R E e1 fun vs H1 m1 g1 R1 r1 => ?_
  exact or H1 m1 h1 xs vs d h' Q R1 r1 e fun v H2 m2 g2 => k v H2 m2 (g1.trans g2)
/-- the type of what stands for a datum -/
theorem tyx_rep {K : PySem.W.Frag} {H : Hp} {m : List Addr} {h : MH} (R : HRel K H m h) {d : D} {v : V} (r : Rep K H m d v) : TyX K H v (.type (tyn d)) := by
  cases r with
  | non => exact .base .non
  | bl b => exact .base (.bl b)
  | int i => exact .base (.int i)
  | str s => exact .base (.str s)
  | tup hs _ =>
    rcases hs with (h | ⟨o, h⟩) | ⟨o, its, n, h1, h2, _⟩
    · exact .base (.tup h)
    · exact .fTuple h
    · exact .kTuple h1 h2
  | ref hn =>
    obtain ⟨vs, e, _⟩ : ∃ vs, H _ = some (.lst vs) ∧ True := by
      have : ∃ xs, h[_]? = some xs := ⟨_, List.getElem?_eq_getElem (by rw [← R.len]; exact (List.getElem?_eq_some_iff.mp hn).1)⟩
      obtain ⟨xs, e⟩ := this
      obtain ⟨vs, e2, _⟩ := R.at' _ _ _ hn e
      exact ⟨vs, e2, trivial⟩
    exact .base (.lst e)
  | frl hs _ =>
    rcases hs with ⟨o, h⟩ | ⟨o, its, n, h1, h2, _⟩
    · exact .base (.frz h)
    · exact .kList h1 h2
  | dct _ h _ _ => exact .base (.dK h)
theorem je_isi {T : String} {q : Pos} {y : Str} {ga : En → MH → Option (D × MH)} (ha : JE X a ga) (hs : noStar a = true) (hg : Gl X "isinstance") (hm : X.mg "isinstance" = none) (hg2 : Gl X y) (hm2 : X.mg y = none) (hv2 : bootBuiltins y = some (.type T))
    (hn : y ≠ "__name__") (hdb : (y == ("__debug__" : Str)) = false) :
    JE X (.Call (.Name "isinstance" p) [a, .Name y q] [] pos) fun τ h => (ga τ h).bind fun (x, h1) => (kitB (tyn x) T).map fun b => (.bl b, h1) := by
  obtain ⟨t, pt, ot⟩ := ha
  refine ⟨_, pe_callB call_isi hg hm PyProof.Rows.boot_isinstance (pa_cons pt (pa_cons (pe_bltn (v := .ty T) hg2 hm2 hv2 rfl hn hdb) pa_nil (by rfl)) (starEach_plain hs)) (by decide) (by decide) (starEach_plain hs) (by rfl), ?_⟩
  intro σ H τ m h d h' Q R E e k
  obtain ⟨x, h1, e1, e⟩ := bind_pair e
  obtain ⟨b, e2, e3⟩ := Option.map_eq_some_iff.mp e
  cases e3
  refine ot σ H τ m h x _ _ R E e1 fun v H1 m1 g1 R1 r1 => ?_
  exact ⟨v, .ty T, _, _, b, rfl, .ty T, tyx_rep R1 r1, kit_ty e2, k _ _ _ g1 R1 (.bl _)⟩

/-- a def that keeps the plain meaning g -/
def SpOk (K : PySem.W.Frag) (sp : Sp) (g : List D → MH → Option (D × MH)) : Prop := ∀ H m h xs vs d h' Q E, HRel K H m h → RepL K H m xs vs → g xs h = some (d, h') → Then K H m d h' Q → sp vs H Q E
structure FnHas (P : Program) (w : World) (K : PySem.W.Frag) (mg : Str → Option Value) (base : Heap) (A : Around) (x : Str) (g : List D → MH → Option (D × MH)) : Prop where
  ex : ∃ (k : Nat) (f : Addr) (fd : FuncData) (ps : List Str) (sp : Sp), FnG P w K mg base k f fd ps sp ∧ A.guards = some [] ∧ Room k A ∧ mg x = some (.ref f) ∧ PySem.W.keepIn K (.ref f) = true ∧ Binds K fd ps [] ∧ SpOk K sp g
theorem je_call {g : List D → MH → Option (D × MH)} {ga : En → MH → Option (List D × MH)} (F : FnHas X.prog X.w X.K X.mg X.base X.A x g) (hg : Gl X x)
    (ha : JA X (e :: es) ga) (hs : (e :: es).all noStar = true) (hdb : (x == ("__debug__" : Str)) = false) :
    JE X (.Call (.Name x p) (e :: es) [] pos) fun τ h => (ga τ h).bind fun (xs, h1) => g xs h1 := by
  obtain ⟨k, f, fd, ps, sp, F, gd, hr, hm, hk, hb, so⟩ := F.ex
  obtain ⟨t, pt, ot⟩ := ha
  rw [List.all_cons, Bool.and_eq_true] at hs
  refine ⟨_, pe_callG (E := fun _ _ _ => False) F gd hr hg hm hk hb .nil pt hdb (starEach_plain hs.1) (back_plain hs.2), ?_⟩
  intro σ H τ m h d h' Q R E e k
  obtain ⟨xs, h1, e1, e⟩ := bind_pair e
  refine ot σ H τ m h xs h1 _ R E e1 fun vs H1 m1 g1 R1 r1 => ?_
  rw [List.append_nil]
  exact so H1 m1 h1 xs vs d h' Q _ R1 r1 e fun v H2 m2 g2 => k v H2 m2 (g1.trans g2)
theorem je_call0 {g : List D → MH → Option (D × MH)} (F : FnHas X.prog X.w X.K X.mg X.base X.A x g) (hg : Gl X x) (hdb : (x == ("__debug__" : Str)) = false) :
    JE X (.Call (.Name x p) [] [] pos) fun τ h => g [] h := by
  obtain ⟨k, f, fd, ps, sp, F, gd, hr, hm, hk, hb, so⟩ := F.ex
  refine ⟨_, pe_callG0 (E := fun _ _ _ => False) F gd hr hg hm hk hb .nil hdb, ?_⟩
  intro σ H τ m h d h' Q R E e k
  exact so H m h [] [] d h' Q _ R .nil e fun v H2 m2 g2 => k v H2 m2 g2
/-- .. called with some defaults left, or by keywords: n positional arguments, the keywords ks; arr puts the arguments as they were written into the parameters' order -/
structure FnPat (P : Program) (w : World) (K : PySem.W.Frag) (mg : Str → Option Value) (base : Heap) (A : Around) (x : Str) (n : Nat) (ks : List Str) (g : List D → MH → Option (D × MH)) (arr : List D → List D) : Prop where
  ex : ∃ (k : Nat) (f : Addr) (fd : FuncData) (ps : List Str) (sp : Sp), FnG P w K mg base k f fd ps sp ∧ A.guards = some [] ∧ Room k A ∧ mg x = some (.ref f) ∧ PySem.W.keepIn K (.ref f) = true ∧ SpOk K sp g ∧
    ((ks = [] ∧ ∃ ds dvs, Binds K fd ps ds ∧ Vals dvs ds ∧ ∀ H m xs vs, xs.length = n → RepL K H m xs vs → RepL K H m (arr xs) (vs ++ dvs)) ∨
      (ks ≠ [] ∧ ∃ gg gV, KBn K fd ps n ks gg gV ∧ ∀ H m xs zs vs ws, xs.length = n → zs.length = ks.length → RepL K H m xs vs → RepL K H m zs ws → RepL K H m (arr (xs ++ zs)) (gV vs ws)))
theorem ja_len {ga : En → MH → Option (List D × MH)} {n : Nat} (hl : ∀ τ h xs h', ga τ h = some (xs, h') → xs.length = n) {τ : En} {h h' : MH} {xs : List D} (e : ga τ h = some (xs, h')) : xs.length = n := hl _ _ _ _ e
theorem je_callD {n : Nat} {g : List D → MH → Option (D × MH)} {arr : List D → List D} {ga : En → MH → Option (List D × MH)} (F : FnPat X.prog X.w X.K X.mg X.base X.A x n [] g arr) (hg : Gl X x)
    (ha : JA X (e :: es) ga) (hl : ∀ τ h xs h', ga τ h = some (xs, h') → xs.length = n) (hs : (e :: es).all noStar = true) (hdb : (x == ("__debug__" : Str)) = false) :
    JE X (.Call (.Name x p) (e :: es) [] pos) fun τ h => (ga τ h).bind fun (xs, h1) => g (arr xs) h1 := by
  obtain ⟨k, f, fd, ps, sp, F, gd, hr, hm, hk, so, c⟩ := F.ex
  rcases c with ⟨_, ds, dvs, hb, hd, ar⟩ | ⟨z, _⟩
  · obtain ⟨t, pt, ot⟩ := ha
    rw [List.all_cons, Bool.and_eq_true] at hs
    refine ⟨_, pe_callG (E := fun _ _ _ => False) F gd hr hg hm hk hb hd pt hdb (starEach_plain hs.1) (back_plain hs.2), ?_⟩
    intro σ H τ m h d h' Q R E e k
    obtain ⟨xs, h1, e1, e⟩ := bind_pair e
    refine ot σ H τ m h xs h1 _ R E e1 fun vs H1 m1 g1 R1 r1 => ?_
    exact so H1 m1 h1 (arr xs) _ d h' Q _ R1 (ar _ _ _ _ (hl _ _ _ _ e1) r1) e fun v H2 m2 g2 => k v H2 m2 (g1.trans g2)
  · exact absurd rfl z
def JK (X : Cx) (kws : List Keyword) (g : En → MH → Option (List D × MH)) : Prop := ∃ t, PK X kws t ∧ TAok X.K t g
theorem jk_nil : JK X [] fun _ h => some ([], h) := by
  refine ⟨_, pk_nil, ?_⟩
  intro σ H τ m h ds h' Q R E e k
  cases e
  exact k _ _ _ .refl R .nil
theorem jk_cons {nm : Option Str} {kpos : Pos} {kws : List Keyword} {ga : En → MH → Option (D × MH)} {gs : En → MH → Option (List D × MH)} (ha : JE X e ga) (hs : JK X kws gs) :
    JK X (⟨nm, e, kpos⟩ :: kws) fun τ h => (ga τ h).bind fun (x, h1) => (gs τ h1).map fun (xs, h2) => (x :: xs, h2) := by
  obtain ⟨ta, pa, oa⟩ := ha
  obtain ⟨ts, ps, os⟩ := hs
  refine ⟨_, pk_cons pa ps, ?_⟩
  intro σ H τ m h ds h' Q R E e k
  obtain ⟨x, h1, e1, e2⟩ := bind_pair e
  obtain ⟨xs, h2, e3, e4⟩ := map_pair e2
  cases e4
  refine oa σ H τ m h x h1 _ R E e1 fun v H1 m1 g1 R1 r1 => ?_
  refine os σ H1 τ m1 h1 xs _ _ R1 (E.mono g1) e3 fun vs H2 m2 g2 R2 r2 => ?_
  exact k _ _ _ (g1.trans g2) R2 (.cons (r1.mono g2) r2)
theorem kw_all {env : Env} : ∀ {kws : List Keyword} {ks : List Str}, kws.map (·.arg) = ks.map some →
    (backToKw pos (keywordEach kws env)).all (·.1.isSome) = true ∧ (backToKw pos (keywordEach kws env)).filterMap (·.1) = ks ∧ (backToKw pos (keywordEach kws env)).any (·.1.isNone) = false
  | [], [], _ => ⟨rfl, rfl, rfl⟩
  | [], _ :: _, h => by cases h
  | _ :: _, [], h => by cases h
  | ⟨nm, v, q⟩ :: kws, k :: ks, h => by
    simp only [List.map_cons, List.cons.injEq] at h
    obtain ⟨h1, h2⟩ := h
    have h1 : nm = some k := h1
    subst h1
    obtain ⟨i1, i2, i3⟩ := kw_all (env := env) h2
    unfold backToKw at i1 i2 i3
    refine ⟨?_, ?_, ?_⟩
    · simp only [keywordEach, backToKw, List.map_cons, List.all_cons, Option.isSome, Bool.true_and]
      exact i1
    · simp only [keywordEach, backToKw, List.map_cons, List.filterMap_cons]
      rw [i2]
    · simp only [keywordEach, backToKw, List.map_cons, List.any_cons, Option.isNone, Bool.false_or]
      exact i3
theorem je_callK {n : Nat} {ks : List Str} {kws : List Keyword} {g : List D → MH → Option (D × MH)} {arr : List D → List D} {ga gk : En → MH → Option (List D × MH)} (F : FnPat X.prog X.w X.K X.mg X.base X.A x n ks g arr) (hks : ks ≠ []) (hg : Gl X x)
    (ha : JA X (e :: es) ga) (hk' : JK X kws gk) (hl : ∀ τ h xs h', ga τ h = some (xs, h') → xs.length = n) (hl2 : ∀ τ h xs h', gk τ h = some (xs, h') → xs.length = ks.length)
    (hs : (e :: es).all noStar = true) (hkw : kws.map (·.arg) = ks.map some) (hdb : (x == ("__debug__" : Str)) = false) :
    JE X (.Call (.Name x p) (e :: es) kws pos) fun τ h => (ga τ h).bind fun (xs, h1) => (gk τ h1).bind fun (zs, h2) => g (arr (xs ++ zs)) h2 := by
  obtain ⟨k, f, fd, ps, sp, F, gd, hr, hm, hk, so, c⟩ := F.ex
  rcases c with ⟨z, _⟩ | ⟨_, gg, gV, hb, ar⟩
  · exact absurd z hks
  · obtain ⟨t, pt, ot⟩ := ha
    obtain ⟨u, pu, ou⟩ := hk'
    have hs' := hs
    rw [List.all_cons, Bool.and_eq_true] at hs'
    obtain ⟨k1, k2, k3⟩ := kw_all (pos := pos) (env := X.env) hkw
    refine ⟨_, pe_callGN (E := fun _ _ _ => False) F gd hr hg hm hk hb pt pu k1 k2 hdb (starEach_plain hs'.1) (by rw [back_plain hs, k3]; rfl), ?_⟩
    intro σ H τ m h d h' Q R E e k
    obtain ⟨xs, h1, e1, e⟩ := bind_pair e
    obtain ⟨zs, h2, e2, e⟩ := bind_pair e
    refine ot σ H τ m h xs h1 _ R E e1 fun vs H1 m1 g1 R1 r1 => ?_
    refine ou σ H1 τ m1 h1 zs h2 _ R1 (E.mono g1) e2 fun ws H2 m2 g2 R2 r2 => ?_
    refine ⟨(r1.mono g2).len.symm.trans (hl _ _ _ _ e1), r2.len.symm.trans (hl2 _ _ _ _ e2), ?_⟩
    exact so H2 m2 h2 _ _ d h' Q _ R2 (ar _ _ _ _ _ _ (hl _ _ _ _ e1) (hl2 _ _ _ _ e2) (r1.mono g2) r2) e fun v H3 m3 g3 => k v H3 m3 ((g1.trans g2).trans g3)

theorem je_callK0 {ks : List Str} {kws : List Keyword} {g : List D → MH → Option (D × MH)} {arr : List D → List D} {gk : En → MH → Option (List D × MH)} (F : FnPat X.prog X.w X.K X.mg X.base X.A x 0 ks g arr) (hks : ks ≠ []) (hg : Gl X x)
    (hk' : JK X kws gk) (hl2 : ∀ τ h xs h', gk τ h = some (xs, h') → xs.length = ks.length) (hkw : kws.map (·.arg) = ks.map some) (hdb : (x == ("__debug__" : Str)) = false) :
    JE X (.Call (.Name x p) [] kws pos) fun τ h => (gk τ h).bind fun (zs, h2) => g (arr zs) h2 := by
  obtain ⟨k, f, fd, ps, sp, F, gd, hr, hm, hk, so, c⟩ := F.ex
  rcases c with ⟨z, _⟩ | ⟨_, gg, gV, hb, ar⟩
  · exact absurd z hks
  · obtain ⟨u, pu, ou⟩ := hk'
    obtain ⟨k1, k2, k3⟩ := kw_all (pos := pos) (env := X.env) hkw
    refine ⟨_, pe_callG0N (E := fun _ _ _ => False) F gd hr hg hm hk hb pu k1 k2 hdb (by rw [k3]; rfl), ?_⟩
    intro σ H τ m h d h' Q R E e k
    obtain ⟨zs, h2, e2, e⟩ := bind_pair e
    refine ou σ H τ m h zs h2 _ R E e2 fun ws H2 m2 g2 R2 r2 => ?_
    refine ⟨rfl, r2.len.symm.trans (hl2 _ _ _ _ e2), ?_⟩
    exact so H2 m2 h2 _ _ d h' Q _ R2 (ar _ _ [] _ [] _ rfl (hl2 _ _ _ _ e2) .nil r2) e fun v H3 m3 g3 => k v H3 m3 (g2.trans g3)
/-! ### slices, append -/
def JP (X : Cx) (o : Option Expr) (g : En → MH → Option (Option Int × MH)) : Prop :=
  ∃ t, PO X o t ∧ ∀ σ H τ m h i h' (Q : Option Int → Hp → Prop), HRel X.K H m h → ERel X.K H m τ σ → g τ h = some (i, h') → (∀ H' m', Grow H m H' m' → HRel X.K H' m' h' → Q i H') → t σ H Q
theorem jp_none : JP X none fun _ h => some (none, h) := by
  refine ⟨_, po_none, ?_⟩
  intro σ H τ m h i h' Q R E e k
  cases e
  exact k _ _ .refl R
theorem jp_some {g : En → MH → Option (D × MH)} (ha : JE X e g) : JP X (some e) fun τ h => (g τ h).bind fun (x, h1) => match x with
    | .int i => some (some i, h1)
    | _ => none := by
  obtain ⟨t, pt, ot⟩ := ha
  refine ⟨_, po_some pt, ?_⟩
  intro σ H τ m h i h' Q R E e k
  obtain ⟨x, h1, e1, e⟩ := bind_pair e
  refine ot σ H τ m h x h1 _ R E e1 fun v H1 m1 g1 R1 r1 => ?_
  cases r1 <;> first | cases e | skip
  exact ⟨_, rfl, k _ _ g1 R1⟩
theorem je_slc {lo hi : Option Expr} {p2 : Pos} {ga : En → MH → Option (D × MH)} {gl gh : En → MH → Option (Option Int × MH)} (ha : JE X a ga) (hl : JP X lo gl) (hh : JP X hi gh) :
    JE X (.Subscript a (.Slice lo hi none p2) pos) fun τ h => (ga τ h).bind fun (x, h1) => (gl τ h1).bind fun (l, h2) => (gh τ h2).bind fun (u, h3) => slcD h3 x l u := by
  obtain ⟨ta, pa, oa⟩ := ha
  obtain ⟨tl, pl, ol⟩ := hl
  obtain ⟨th, ph, oh⟩ := hh
  refine ⟨_, pe_slice ((sl_tup.or sl_list).or C8.sl_txt) pa pl ph, ?_⟩
  intro σ H τ m h d h' Q R E e k
  obtain ⟨x, h1, e1, e⟩ := bind_pair e
  obtain ⟨l, h2, e2, e⟩ := bind_pair e
  obtain ⟨u, h3, e3, e⟩ := bind_pair e
  refine oa σ H τ m h x h1 _ R E e1 fun v H1 m1 g1 R1 r1 => ?_
  refine ol σ H1 τ m1 h1 l h2 _ R1 (E.mono g1) e2 fun H2 m2 g2 R2 => ?_
  refine oh σ H2 τ m2 h2 u h3 _ R2 ((E.mono g1).mono g2) e3 fun H3 m3 g3 R3 => ?_
  have g13 := (g1.trans g2).trans g3
  have r3 := (r1.mono g2).mono g3
  cases r3 with
  | tup hs rl =>
    simp only [slcD] at e
    split at e
    · rename_i c
      cases e
      refine .inl (.inl ⟨_, _, rfl, hs, by rw [← rl.len]; exact c, fun q hq => ?_⟩)
      exact k _ _ _ (g13.trans (grow_new hq)) (R3.newTup hq) (.tup (.of upd_same) ((rl.cut l u).mono (grow_new hq)))
    · cases e
  | ref hn =>
    simp only [slcD] at e
    obtain ⟨xs, e4, e5⟩ := Option.map_eq_some_iff.mp e
    cases e5
    obtain ⟨vs, a1, rl⟩ := R3.at' _ _ _ hn e4
    refine .inl (.inr ⟨_, _, rfl, .of a1, fun q hq => ?_⟩)
    refine k _ _ _ (g13.trans (grow_lst hq)) (R3.newLst hq (rl.cut l u)) (.ref ?_)
    rw [← R3.len]; simp
  | non => simp [slcD] at e
  | bl => simp [slcD] at e
  | int => simp [slcD] at e
  | str z =>
    simp only [slcD] at e
    split at e
    · rename_i c
      cases e
      exact .inr ⟨z, rfl, Nat.le_trans c (by rw [sizeLine_eq]; decide), k _ _ _ g13 R3 (.str _)⟩
    · cases e
  | frl => simp [slcD] at e
  | dct => simp [slcD] at e
/-- a base that is no call -/
theorem attr_plain {f : Str} {env : Env} (h : ∀ a b c d, o ≠ .Call a b c d) : attributeBase o f env (eval o env) = eval o env := by
  cases o <;> first | rfl | exact absurd rfl (h _ _ _ _)
theorem je_app {go ge : En → MH → Option (D × MH)} (ho : JE X o go) (he : JE X e ge) (hc : ∀ a b c d, o ≠ .Call a b c d) (hs : noStar e = true) (hline : (apos.endLine == cpos.line) = true) :
    JE X (.Call (.Attribute o "append" apos) [e] [] cpos) fun τ h => (go τ h).bind fun (x, h1) => (ge τ h1).bind fun (y, h2) => (appD h2 x y).map fun h3 => (.non, h3) := by
  obtain ⟨to, po, oo⟩ := ho
  obtain ⟨te, pe, oe⟩ := he
  have hfew : ((backTo cpos (starEach [e] X.env)).all (fun x => !x.1) && (backToKw cpos (keywordEach [] X.env)).all (fun x => x.1.isSome)
      && decide ([e].length + ([] : List Keyword).length + (if ([] : List Keyword).isEmpty then 0 else 1) < 30)) = true := by
    rw [back_all (by simp [hs])]; rfl
  refine ⟨_, pe_bm PySem.F.plainAttrs_list PySem.F.slot_list_append PySem.F.type_list_append mt_append po (pa_cons pe pa_nil (starEach_plain hs)) (attr_plain hc) hfew hline (starEach_plain hs) (by rfl), ?_⟩
  intro σ H τ m h d h' Q R E e k
  obtain ⟨x, h1, e1, e⟩ := bind_pair e
  obtain ⟨y, h2, e2, e⟩ := bind_pair e
  obtain ⟨h3, e3, e4⟩ := Option.map_eq_some_iff.mp e
  cases e4
  refine oo σ H τ m h x h1 _ R E e1 fun v H1 m1 g1 R1 r1 => ?_
  have lst : ∃ n a vs xs, x = .ref n ∧ v = .ref a ∧ m1[n]? = some a ∧ h1[n]? = some xs ∧ H1 a = some (.lst vs) := by
    cases r1 with
    | ref hn =>
      have : ∃ xs, h1[_]? = some xs := ⟨_, List.getElem?_eq_getElem (by rw [← R1.len]; exact (List.getElem?_eq_some_iff.mp hn).1)⟩
      obtain ⟨xs, ex⟩ := this
      obtain ⟨vs, a1, _⟩ := R1.at' _ _ _ hn ex
      exact ⟨_, _, vs, xs, rfl, rfl, hn, ex, a1⟩
    | tup => simp [appD] at e3
    | non => simp [appD] at e3
    | bl => simp [appD] at e3
    | int => simp [appD] at e3
    | str => simp [appD] at e3
    | frl => simp [appD] at e3
    | dct => simp [appD] at e3
  obtain ⟨n, l, vs, xs, rfl, rfl, hn, ex, a1⟩ := lst
  refine ⟨.inl ⟨rfl, _, .of a1⟩, ?_⟩
  refine oe σ H1 τ m1 h1 y h2 _ R1 (E.mono g1) e2 fun w H2 m2 g2 R2 r2 => ?_
  simp only [appD] at e3
  obtain ⟨ys, e5, e6⟩ := Option.bind_eq_some_iff.mp e3
  split at e6
  · rename_i c
    cases e6
    have hn2 := g2.pre _ _ hn
    obtain ⟨us, a2, ru⟩ := R2.at' _ _ _ hn2 e5
    refine ⟨_, _, _, rfl, rfl, a2, by rw [← ru.len]; exact Nat.lt_of_le_of_lt c lim_lt, ?_⟩
    have g3 : Grow H2 m2 (upd H2 l (.lst (us ++ [w]))) m2 := grow_set hn2 a2
    exact k _ _ _ ((g1.trans g2).trans g3) (R2.setAt hn2 a2 (ru.app (.cons r2 .nil))) .non
  · cases e6
end
end Fq

set_option maxHeartbeats 4000000
/-! Fq: displays of dicts by texts, .get. -/
namespace Fq
open PySem PySem.Spec PyProof.Rows L2

theorem merge_fresh : ∀ (more kvs : List (Key × V)), ((kvs ++ more).map (·.1)).Nodup → mergeK kvs more = kvs ++ more
  | [], kvs, _ => by rw [List.append_nil]; rfl
  | p :: r, kvs, nd => by
    have off : (kvs.any fun kv => decide (kv.1 = p.1)) = false := by
      rw [List.any_eq_false]
      intro q m
      simp only [decide_eq_true_eq]
      intro e
      rw [List.map_append, List.nodup_append] at nd
      exact nd.2.2 _ (List.mem_map_of_mem m) _ (List.mem_map_of_mem (List.mem_cons_self ..)) e
    have pk : putK kvs p.1 p.2 = kvs ++ [p] := by
      unfold putK
      rw [off]
      rfl
    show mergeK (putK kvs p.1 p.2) r = _
    rw [pk, merge_fresh r (kvs ++ [p]) (by rw [List.append_assoc]; exact nd), List.append_assoc]
    rfl
section
variable {X : Cx} {o a b : Expr} {pos apos cpos : Pos}
/-- the pairs of a display: texts as keys -/
def JPs (X : Cx) (pos : Pos) (keys : List (Option Expr)) (values : List Expr) (ks : List Str) (g : En → MH → Option (List D × MH)) : Prop :=
  ∃ trs, PPs X pos keys values trs ∧ ∀ σ H τ m h ds h' (Q : List (V × V) → Hp → Prop), HRel X.K H m h → ERel X.K H m τ σ → g τ h = some (ds, h') →
    (∀ vs H' m', Grow H m H' m' → HRel X.K H' m' h' → RepL X.K H' m' ds vs → vs.length = ks.length → Q ((ks.map V.str).zip vs) H') → tPairs trs σ H Q
theorem jps_nil : JPs X pos [] [] [] fun _ h => some ([], h) := by
  refine ⟨_, pps_nil, ?_⟩
  intro σ H τ m h ds h' Q R E e k
  cases e
  exact k [] _ _ .refl R .nil rfl
theorem jps_cons {k v : Expr} {keys : List (Option Expr)} {values : List Expr} {s : Str} {ks : List Str} {gv : En → MH → Option (D × MH)} {gs : En → MH → Option (List D × MH)} (hk : JE X k fun _ h => some (.str s, h)) (hv : JE X v gv) (hr : JPs X pos keys values ks gs) :
    JPs X pos (some k :: keys) (v :: values) (s :: ks) fun τ h => (gv τ h).bind fun (x, h1) => (gs τ h1).map fun (xs, h2) => (x :: xs, h2) := by
  obtain ⟨tk, pk, ok⟩ := hk
  obtain ⟨tv, pv, ov⟩ := hv
  obtain ⟨trs, pr, or⟩ := hr
  refine ⟨_, pps_cons pk pv pr, ?_⟩
  intro σ H τ m h ds h' Q R E e kk
  obtain ⟨x, h1, e1, e⟩ := bind_pair e
  obtain ⟨xs, h2, e2, e3⟩ := map_pair e
  cases e3
  refine ok σ H τ m h _ h _ R E rfl fun u H0 m0 g0 R0 r0 => ?_
  cases r0
  refine ov σ H0 τ m0 h x h1 _ R0 (E.mono g0) e1 fun w H1 m1 g1 R1 r1 => ?_
  refine or σ H1 τ m1 h1 xs _ _ R1 ((E.mono g0).mono g1) e2 fun ws H2 m2 g2 R2 r2 l => ?_
  exact kk (w :: ws) H2 m2 ((g0.trans g1).trans g2) R2 (.cons (r1.mono g2) r2) (by simp [l])
theorem HRel.notIn {K : PySem.W.Frag} {H : Hp} {m : List Addr} {h : MH} (R : HRel K H m h) {p : Addr} (hp : H p = none) : p ∉ m := fun z => by
  obtain ⟨n, e⟩ := List.mem_iff_getElem?.mp z
  have l : n < h.length := by rw [← R.len]; exact (List.getElem?_eq_some_iff.mp e).1
  obtain ⟨ws, e3, _⟩ := R.at' n p h[n] e (List.getElem?_eq_getElem l)
  rw [hp] at e3; cases e3
theorem je_dsp {keys : List (Option Expr)} {values : List Expr} {ks : List Str} {g : En → MH → Option (List D × MH)} (hp : JPs X pos keys values ks g) (h1 : keys.all (·.isSome) = true) (h2 : keys.length = values.length) (h3 : keys ≠ []) (h4 : keys.length ≤ 15)
    (h5 : ks.length = keys.length) (nd : ks.Nodup) : JE X (.Dict keys values pos) fun τ h => (g τ h).bind fun (xs, h1) => if xs.length = ks.length then some (.dct ks xs, h1) else none := by
  obtain ⟨trs, pt, ot⟩ := hp
  refine ⟨_, pe_disp pt h1 h2 h3 h4, ?_⟩
  intro σ H τ m h d h' Q R E e k p hp
  obtain ⟨xs, h1', e1, e⟩ := bind_pair e
  have e : (if xs.length = ks.length then some (D.dct ks xs, h1') else none) = some (d, h') := e
  split at e
  · cases e
    have g0 : Grow H m (upd H p (.dK [])) m := grow_new hp
    have R0 : HRel X.K (upd H p (.dK [])) m h := R.mono g0 fun a ws z => by rw [upd_ne (ne_of_none z hp)]; exact z
    have np := R.notIn hp
    refine ot σ _ τ m h xs _ _ R0 (E.mono g0) e1 fun vs H2 m2 g2 R2 r2 l => ?_
    have at2 : H2 p = some (.dK []) := g2.keep p _ upd_same np
    have np2 : p ∉ m2 := fun z => by
      rcases g2.new p z with q | q
      · exact np q
      · rw [upd_same] at q; cases q
    let kvs : List (Key × V) := (ks.map Sum.inr).zip vs
    have lk : (ks.map (Sum.inr : Str → Key)).length = vs.length := by rw [List.length_map, l]
    have kn : kvs.map (·.1) = ks.map Sum.inr := List.map_fst_zip (Nat.le_of_eq lk)
    have vn : kvs.map (·.2) = vs := List.map_snd_zip (Nat.le_of_eq lk.symm)
    have ln : kvs.length = ks.length := by rw [← List.length_map (f := (·.1)), kn, List.length_map]
    have ndk : (kvs.map (·.1)).Nodup := by
      rw [kn]
      exact List.Pairwise.map _ (fun a b n z => n (by injection z)) nd
    have mk : mergeK [] kvs = kvs := merge_fresh kvs [] ndk
    have nn : kvs ≠ [] := by
      intro z
      rw [z] at ln
      exact h3 (List.length_eq_zero_iff.mp (by rw [← h5, ← ln]; rfl))
    refine ⟨at2, kvs, ?_, by rw [ln, h5]; exact h4, ?_⟩
    · show (ks.map V.str).zip vs = ((ks.map Sum.inr).zip vs).map fun kv => (kV kv.1, kv.2)
      have : ∀ (ks : List Str) (vs : List V), (ks.map V.str).zip vs = ((ks.map (Sum.inr : Str → Key)).zip vs).map fun kv => (kV kv.1, kv.2) := by
        intro ks
        induction ks with
        | nil => intro vs; rfl
        | cons k ks ih => intro vs; cases vs with
          | nil => rfl
          | cons v vs => simp only [List.map_cons, List.zip_cons_cons, ih]; rfl
      exact this ks vs
    · rw [mk]
      have off : ∀ b w, H2 b = some w → w ≠ .dK [] → b ≠ p := fun b w z n q => by subst q; rw [at2] at z; cases z; exact n rfl
      have u : Up H2 m2 (upd H2 p (.dK kvs)) m2 := ⟨fun _ _ z => z, fun b xs z => by rw [upd_ne (off b _ z (by intro q; cases q))]; exact z, fun b ob w z => by rw [upd_ne (off b _ z (by intro q; cases q))]; exact z,
        fun b ls n z => by rw [upd_ne (off b _ z (by intro q; injection q with q; exact n q))]; exact z⟩
      have R3 : HRel X.K (upd H2 p (.dK kvs)) m2 h' := ⟨R2.len, R2.nd, fun n b ys z1 z2 => by
        obtain ⟨ws, z3, r3⟩ := R2.at' n b ys z1 z2
        exact ⟨ws, by rw [upd_ne (off b _ z3 (by intro q; cases q))]; exact z3, r3.up u⟩⟩
      have g02 := g0.trans g2
      have gf : Grow H m (upd H2 p (.dK kvs)) m2 := ⟨⟨g02.pre, fun b xs z => u.tups _ _ (g02.tups _ _ z), fun b ob w z => u.frzs _ _ _ (g02.frzs _ _ _ z), fun b ls n z => u.dks _ _ n (g02.dks _ _ n z)⟩,
        fun b w z n => by rw [upd_ne (ne_of_none z hp)]; exact g02.keep _ _ z n, g02.new⟩
      exact k _ _ _ gf R3 (.dct nn upd_same kn (by rw [vn]; exact r2.up u))
  · cases e
theorem getD3_some {x y z d : D} (e : getD3 x y z = some d) : ∃ ks ws s, x = .dct ks ws ∧ y = .str s ∧ d = (lkD ks ws s).getD z := by
  unfold getD3 at e
  split at e
  · cases e; exact ⟨_, _, _, rfl, rfl, rfl⟩
  · cases e
theorem je_dget {go ga gb : En → MH → Option (D × MH)} (hu : X.A.units + 1 < cLine) (ho : JE X o go) (ha : JE X a ga) (hb : JE X b gb) (hc : ∀ a b c d, o ≠ .Call a b c d) (sa : noStar a = true) (sb : noStar b = true) (line : (apos.endLine == cpos.line) = true) :
    JE X (.Call (.Attribute o "get" apos) [a, b] [] cpos) fun τ h => (go τ h).bind fun (x, h1) => (ga τ h1).bind fun (y, h2) => (gb τ h2).bind fun (z, h3) => (getD3 x y z).map fun d => (d, h3) := by
  obtain ⟨to, po, oo⟩ := ho
  obtain ⟨ta, pa, oa⟩ := ha
  obtain ⟨tb, pb, ob⟩ := hb
  have tr : backTo cpos (starEach [a, b] X.env) = [(false, eval a X.env), (false, eval b X.env)] := by
    rw [starEach_plain sa, starEach_plain sb]
    rfl
  refine ⟨_, pe_dget2 hu po pa pb ⟨attr_plain hc, ?_, line, tr⟩, ?_⟩
  · rw [back_all (by simp [sa, sb])]; rfl
  intro σ H τ m h d h' Q R E e k
  obtain ⟨x, h1, e1, e⟩ := bind_pair e
  obtain ⟨y, h2, e2, e⟩ := bind_pair e
  obtain ⟨z, h3, e3, e⟩ := bind_pair e
  obtain ⟨d', e4, e5⟩ := Option.map_eq_some_iff.mp e
  cases e5
  obtain ⟨ks, ws, s, rfl, rfl, rfl⟩ := getD3_some e4
  refine oo σ H τ m h _ h1 _ R E e1 fun v H1 m1 g1 R1 r1 => ?_
  cases r1 with
  | dct nn at1 kn rv =>
    rename_i p kvs
    refine ⟨p, rfl, .inl ⟨kvs, .inl at1⟩, ?_⟩
    refine oa σ H1 τ m1 h1 _ h2 _ R1 (E.mono g1) e2 fun w H2 m2 g2 R2 r2 => ?_
    cases r2
    refine ob σ H2 τ m2 h2 z _ _ R2 ((E.mono g1).mono g2) e3 fun w3 H3 m3 g3 R3 r3 => ?_
    have g23 := g2.trans g3
    have at3 := g23.dks _ _ nn at1
    refine ⟨valV kvs (.inr s), DGet.k (k := .inr s) at3, ?_⟩
    obtain ⟨l1, l2⟩ := lkD_rep s kn (rv.mono g23)
    cases q : lkD ks ws s with
    | none =>
      rw [l2 q]
      rw [q] at k
      exact k _ _ _ (g1.trans g23) R3 r3
    | some d =>
      obtain ⟨v, e6, rv⟩ := l1 d q
      rw [e6]
      rw [q] at k
      exact k _ _ _ (g1.trans g23) R3 rv
end
end Fq

set_option maxHeartbeats 2000000
/-! Fq: zip of a tuple with a list. -/
namespace Fq
open PySem PySem.Spec PyProof.Rows L2 RZ
section
variable {prog : Program} {w : World} {A : Around} {E : Value → Shared → Prop} {s : Shared}
/-- what stands while such a zip is walked -/
structure ZM (h : Heap) (z p q i j l m : Addr) (k : Nat) (f a b : Value) : Prop where
  zip : IsZip h z p q f
  its : IsPair h p (.ref i) (.ref j)
  own : IsPair h q a b
  one : h.IsTupleIter i l k
  two : h.IsListIter j m k
theorem mixed_item {z p q i j l m : Addr} {k : Nat} {xs ys : Array Value} {x y a b : Value} {Q : Value → Shared → Prop} (D : ZipApart z p q i j l m) (S : ZM s.heap z p q i j l m k .none a b)
    (tl : s.heap.IsTuple l xs) (ll : s.heap.IsList m ys) (ex : xs[k]? = some x) (ey : ys[k]? = some y)
    (fin : ∀ h', ZM h' z p q i j l m (k + 1) (rawInt s.heap.objs.size) x y → IsPair h' s.heap.objs.size x y → (∀ c o, c ≠ z → c ≠ q → c ≠ i → c ≠ j → s.heap.get? c = some o → h'.get? c = some o) → Q (.ref s.heap.objs.size) { s with heap := h' }) :
    wpAny (model prog w) A (Builtin.«zip.__next__» ⟨[.ref z], []⟩) (fun r s' => ∃ v, r = .done (.ret v) ∧ Q v s') E s := by
  apply wpAny_bind (m := field (.ref z) 2) (wpAny_field S.zip rfl (x := .bool false) rfl ?_)
  apply wpAny_bind (m := field (.ref z) 3) (wpAny_field S.zip rfl (x := .ref p) rfl ?_)
  apply wpAny_bind (wpAny_seqItems S.its rfl ?_)
  apply wpAny_bind (m := Builtin.SmallTypes.ownedTupleIsFree (.ref z))
  delta Builtin.SmallTypes.ownedTupleIsFree
  refine wpAny_bind (wpAny_field S.zip rfl (x := .none) rfl (wpAny_pure ?_))
  simp only [if_true]
  apply wpAny_bind (wpAny_rule ?_)
  apply wpAny_bind (wpAny_field S.zip rfl (x := .ref q) rfl ?_)
  refine wpAny_bind (wpAny_setField_rec S.zip (by simp) fun g1 z1 b1 => ?_)
  replace z1 : IsZip g1 z p q .ellipsis := z1
  apply wpAny_bind
  simp only [List.zipIdx_nil, List.zipIdx_cons, List.forIn_nil, List.forIn_cons]
  apply wpAny_bind (wpAny_bind (wpAny_onRaise ?_))
  refine wpAny_bind (m := Builtin.SmallTypes.nextOf (.ref i)) (nextOf_tuple_item (S.one.extBut b1.extBut D.i1z) (tl.extBut b1.extBut D.l1z) ex fun g2 t2 b2 => wpAny_pure ?_)
  have o2 : IsPair g2 q a b := b2.extBut _ _ D.TOi1 (b1.extBut _ _ D.TOz S.own)
  apply wpAny_bind (wpAny_seqItems o2 rfl ?_)
  refine wpAny_bind (wpAny_updateSeq_pair o2 fun g3 o3 b3 => ?_)
  replace o3 : IsPair g3 q x b := o3
  refine (wpAny_bind <| wpAny_letGo <| wpAny_pure ?_)
  apply wpAny_bind (wpAny_bind (wpAny_onRaise ?_))
  have two3 := ((S.two.extBut b1.extBut D.i2z).extBut b2.extBut D.i12.symm).extBut b3.extBut D.TOi2.symm
  have box3 := ((ll.extBut b1.extBut D.l2z).extBut b2.extBut D.l2i1).extBut b3.extBut D.l2TO
  refine wpAny_bind (m := Builtin.SmallTypes.nextOf (.ref j)) (wpAny_nextOf_list_item two3 box3 ey fun g4 t4 b4 => wpAny_pure ?_)
  have o4 : IsPair g4 q x b := b4.extBut _ _ D.TOi2 o3
  apply wpAny_bind (wpAny_seqItems o4 rfl ?_)
  refine wpAny_bind (wpAny_updateSeq_pair o4 fun g5 o5 b5 => ?_)
  replace o5 : IsPair g5 q x y := o5
  refine (wpAny_bind <| wpAny_letGo <| wpAny_pure <| wpAny_pure ?_)
  apply wpAny_bind (wpAny_seqItems o5 rfl ?_)
  refine wpAny_bind (wpAny_newTuple ?_)
  have size5 : g5.objs.size = s.heap.objs.size := by rw [b5.1, b4.1, b3.1, b2.1, b1.1]
  have z5 : IsZip g5 z p q .ellipsis := b5.extBut _ _ D.TOz.symm (b4.extBut _ _ D.i2z.symm (b3.extBut _ _ D.TOz.symm (b2.extBut _ _ D.i1z.symm z1)))
  have keep5 : ∀ c o, c ≠ z → c ≠ q → c ≠ i → c ≠ j → s.heap.get? c = some o → g5.get? c = some o := fun c o nz nq ni nj e => b5.extBut _ _ nq (b4.extBut _ _ nj (b3.extBut _ _ nq (b2.extBut _ _ ni (b1.extBut _ _ nz e))))
  have one5 : g5.IsTupleIter i l (k + 1) := ((t2.extBut b3.extBut D.TOi1.symm).extBut b4.extBut D.i12).extBut b5.extBut D.TOi1.symm
  have two5 : g5.IsListIter j m (k + 1) := t4.extBut b5.extBut D.TOi2.symm
  have its5 : IsPair g5 p (.ref i) (.ref j) := keep5 _ _ D.TIz D.TITO D.TIi1 D.TIi2 S.its
  have lt5 : z < g5.objs.size := Heap.lt_size z5
  apply wpAny_bind (m := Builtin.SmallTypes.ownedTupleHandOut (.ref z) (.ref g5.objs.size))
  delta Builtin.SmallTypes.ownedTupleHandOut
  have z6 : IsZip (g5.push { cls := .type "tuple", data := .seq #[x, y] }) z p q .ellipsis := Heap.get?_push_of_some _ z5
  refine wpAny_bind (wpAny_setField_rec z6 (by simp) fun g7 z7 b7 => ?_)
  replace z7 : IsZip g7 z p q (rawInt g5.objs.size) := z7
  refine wpAny_setField_rec z7 (by simp) fun g8 z8 b8 => ?_
  replace z8 : IsZip g8 z p q (rawInt g5.objs.size) := z8
  have up : ∀ c o, c ≠ z → g5.get? c = some o → g8.get? c = some o := fun c o nz e => b8.extBut _ _ nz (b7.extBut _ _ nz (Heap.get?_push_of_some _ e))
  have new8 : IsPair g8 g5.objs.size x y := b8.extBut _ _ (Nat.ne_of_gt lt5) (b7.extBut _ _ (Nat.ne_of_gt lt5) (Heap.get?_push_size _ rfl))
  rw [size5] at z8 new8
  refine wpAny_pure ⟨_, rfl, ?_⟩
  show Q (.ref g5.objs.size) _
  rw [size5]
  exact fin g8 ⟨z8, up _ _ D.TIz its5, up _ _ D.TOz o5, one5.at fun o e => up _ o D.i1z e, two5.at fun o e => up _ o D.i2z e⟩ new8 fun c o nz nq ni nj e => up c o nz (keep5 c o nz nq ni nj e)
theorem mixed_end {z p q i j l m : Addr} {k : Nat} {xs ys : Array Value} {a b : Value} {Q : Fin → Shared → Prop} (hh : A.handled = none) (D : ZipApart z p q i j l m) (S : ZM s.heap z p q i j l m k .none a b)
    (tl : s.heap.IsTuple l xs) (ll : s.heap.IsList m ys) (last : xs[k]? = none ∨ ys[k]? = none)
    (out : ∀ h' e, (∀ c o, c ≠ z → c ≠ q → c ≠ i → c ≠ j → s.heap.get? c = some o → h'.get? c = some o) → (∃ o, h'.get? e = some o ∧ o.cls = .type "StopIteration") → E (.ref e) { s with heap := h' }) :
    wpAny (model prog w) A (Builtin.«zip.__next__» ⟨[.ref z], []⟩) Q E s := by
  apply wpAny_bind (m := field (.ref z) 2) (wpAny_field S.zip rfl (x := .bool false) rfl ?_)
  apply wpAny_bind (m := field (.ref z) 3) (wpAny_field S.zip rfl (x := .ref p) rfl ?_)
  apply wpAny_bind (wpAny_seqItems S.its rfl ?_)
  apply wpAny_bind (m := Builtin.SmallTypes.ownedTupleIsFree (.ref z))
  delta Builtin.SmallTypes.ownedTupleIsFree
  refine wpAny_bind (wpAny_field S.zip rfl (x := .none) rfl (wpAny_pure ?_))
  simp only [if_true]
  apply wpAny_bind (wpAny_rule ?_)
  apply wpAny_bind (wpAny_field S.zip rfl (x := .ref q) rfl ?_)
  refine wpAny_bind (wpAny_setField_rec S.zip (by simp) fun g1 z1 b1 => ?_)
  replace z1 : IsZip g1 z p q .ellipsis := z1
  apply wpAny_bind
  simp only [List.zipIdx_nil, List.zipIdx_cons, List.forIn_nil, List.forIn_cons]
  apply wpAny_bind (wpAny_bind (wpAny_onRaise ?_))
  have one1 := S.one.extBut b1.extBut D.i1z
  have box1 := tl.extBut b1.extBut D.l1z
  cases ex : xs[k]? with
  | none =>
    refine wpAny_bind (m := Builtin.SmallTypes.nextOf (.ref i)) (nextOf_tuple_end hh one1 box1 ex fun g2 e b2 stop => ?_)
    obtain ⟨eo, he, hc⟩ := stop
    have z2 : IsZip g2 z p q .ellipsis := b2 _ _ D.i1z.symm z1
    have ne : e ≠ z := by rintro rfl; rw [z2] at he; cases he; simp at hc
    exact wpAny_setField_rec z2 (by simp) fun g3 _ b3 => out g3 e (fun c o nz _ ni _ u => b3.extBut _ _ nz (b2 _ _ ni (b1.extBut _ _ nz u))) ⟨eo, b3.extBut _ _ ne he, hc⟩
  | some x =>
    have ey : ys[k]? = none := last.resolve_left fun n => by rw [ex] at n; cases n
    refine wpAny_bind (m := Builtin.SmallTypes.nextOf (.ref i)) (nextOf_tuple_item one1 box1 ex fun g2 t2 b2 => wpAny_pure ?_)
    have o2 : IsPair g2 q a b := b2.extBut _ _ D.TOi1 (b1.extBut _ _ D.TOz S.own)
    apply wpAny_bind (wpAny_seqItems o2 rfl ?_)
    refine wpAny_bind (wpAny_updateSeq_pair o2 fun g3 o3 b3 => ?_)
    refine (wpAny_bind <| wpAny_letGo <| wpAny_pure ?_)
    apply wpAny_bind (wpAny_bind (wpAny_onRaise ?_))
    have two3 := ((S.two.extBut b1.extBut D.i2z).extBut b2.extBut D.i12.symm).extBut b3.extBut D.TOi2.symm
    have box3 := ((ll.extBut b1.extBut D.l2z).extBut b2.extBut D.l2i1).extBut b3.extBut D.l2TO
    refine wpAny_bind (m := Builtin.SmallTypes.nextOf (.ref j)) (wpAny_nextOf_list_end hh two3 box3 ey fun g4 e b4 stop => ?_)
    obtain ⟨eo, he, hc⟩ := stop
    have z4 : IsZip g4 z p q .ellipsis := b4 _ _ D.i2z.symm (b3.extBut _ _ D.TOz.symm (b2.extBut _ _ D.i1z.symm z1))
    have ne : e ≠ z := by rintro rfl; rw [z4] at he; cases he; simp at hc
    exact wpAny_setField_rec z4 (by simp) fun g5 _ b5 => out g5 e (fun c o nz nq ni nj u => b5.extBut _ _ nz (b4 _ _ nj (b3.extBut _ _ nq (b2.extBut _ _ ni (b1.extBut _ _ nz u))))) ⟨eo, b5.extBut _ _ ne he, hc⟩
theorem mixed_next {z p q i j l m : Addr} {k : Nat} {xs ys : Array Value} {x y a b : Value} {Q : Option Value → Shared → Prop} (D : ZipApart z p q i j l m) (S : ZM s.heap z p q i j l m k .none a b)
    (tl : s.heap.IsTuple l xs) (ll : s.heap.IsList m ys) (ex : xs[k]? = some x) (ey : ys[k]? = some y)
    (fin : ∀ h', ZM h' z p q i j l m (k + 1) (rawInt s.heap.objs.size) x y → IsPair h' s.heap.objs.size x y → (∀ c o, c ≠ z → c ≠ q → c ≠ i → c ≠ j → s.heap.get? c = some o → h'.get? c = some o) → Q (some (.ref s.heap.objs.size)) { s with heap := h' }) :
    wpAny (model prog w) A (pyNext (.ref z)) Q E s := by
  have ty : s.TypeIs (.ref z) "zip" := ⟨_, S.zip, rfl⟩
  have run := mixed_item (prog := prog) (w := w) (A := A) (E := E) (Q := fun v s' => Q (some v) s') D S tl ll ex ey fin
  unfold pyNext
  apply wpAny_bind (wpAny_attempt (wpAny_callSpecial?_slot (name := Str.ofString "__next__") ty F.slot_zip_next (wpAny_call_entry F.slot_zip_next ty F.entry_zip_next ?_ (F.args_zip_next_1 _))))
  exact mixed_item D S tl ll ex ey fun h' a1 a2 a3 => wpAny_pure (fin h' a1 a2 a3)
theorem mixed_stop {z p q i j l m : Addr} {k : Nat} {xs ys : Array Value} {a b : Value} {Q : Option Value → Shared → Prop} (hh : A.handled = none) (D : ZipApart z p q i j l m) (S : ZM s.heap z p q i j l m k .none a b)
    (tl : s.heap.IsTuple l xs) (ll : s.heap.IsList m ys) (last : xs[k]? = none ∨ ys[k]? = none)
    (fin : ∀ h', (∀ c o, c ≠ z → c ≠ q → c ≠ i → c ≠ j → s.heap.get? c = some o → h'.get? c = some o) → Q none { s with heap := h' }) : wpAny (model prog w) A (pyNext (.ref z)) Q E s := by
  have ty : s.TypeIs (.ref z) "zip" := ⟨_, S.zip, rfl⟩
  unfold pyNext
  apply wpAny_bind (wpAny_attempt (wpAny_callSpecial?_slot (name := Str.ofString "__next__") ty F.slot_zip_next (wpAny_call_entry F.slot_zip_next ty F.entry_zip_next (mixed_end hh D S tl ll last fun h' e kp stop => ?_) (F.args_zip_next_1 _))))
  obtain ⟨o, ho, hc⟩ := stop
  exact wpAny_bind (wpAny_isInstance (T := "StopIteration") (b := true) ⟨o, ho, hc⟩ isSubtype_stop (wpAny_pure (fin _ kp)))
end
/-! ### made -/
def mz1 (h : Heap) (l : Addr) : Heap := h.push { cls := .type "tuple_iterator", data := .fields #[.ref l, .int 0 0] }
def mz2 (h : Heap) (l m : Addr) : Heap := (mz1 h l).push { cls := .type "list_iterator", data := .fields #[.ref m, .int 0 0] }
def mz3 (h : Heap) (l m : Addr) : Heap := (mz2 h l m).push { cls := .type "tuple", data := .seq #[.ref h.objs.size, .ref (mz1 h l).objs.size] }
def mz4 (h : Heap) (l m : Addr) : Heap := (mz3 h l m).push { cls := .type "tuple", data := .seq #[.none, .none] }
def mz5 (h : Heap) (l m : Addr) : Heap := (mz4 h l m).push { cls := .type "zip", data := .fields #[.none, .bool false, .bool false, .ref (mz2 h l m).objs.size, .ref (mz3 h l m).objs.size] }
theorem mixed_meets (l m : Addr) (xs ys : Array Value) : Meets (Builtin.«zip.__new__» ⟨[.type "zip", .ref l, .ref m], []⟩) fun _ R s => s.heap.IsTuple l xs ∧ s.heap.IsList m ys ∧ R (.ok (.ret (.ref (mz4 s.heap l m).objs.size))) { s with heap := mz5 s.heap l m } := by
  apply Meets.of_wp
  rintro prog w A R ⟨hp, g, d, tk, os⟩ ⟨tl, ll, h⟩
  have sub := sub_zip
  have one : Heap.IsTuple (Shared.heap ⟨hp, g, d, tk, os⟩) l xs := tl
  have two : Heap.IsList (Shared.heap ⟨hp.push { cls := .type "tuple_iterator", data := .fields #[.ref l, .int 0 0] }, g, d, tk, os⟩) m ys := Heap.IsList.push ll _
  wp_walk using wpAny_pyIter_tuple one, wpAny_pyIter_list two
  exact ⟨_, rfl, h⟩
section
variable {prog : Program} {w : World} {A : Around} {E : Value → Shared → Prop} {s : Shared}
theorem mixed_call {l m : Addr} {xs ys : Array Value} {Q : Value → Shared → Prop} (tl : s.heap.IsTuple l xs) (ll : s.heap.IsList m ys)
    (fin : ∀ h', ZM h' (s.heap.objs.size + 4) (s.heap.objs.size + 2) (s.heap.objs.size + 3) s.heap.objs.size (s.heap.objs.size + 1) l m 0 .none .none .none → (∀ c o, s.heap.get? c = some o → h'.get? c = some o) → Q (.ref (s.heap.objs.size + 4)) { s with heap := h' }) :
    wpAny (model prog w) A (call (.type "zip") [.ref l, .ref m]) Q E s := by
  apply callType_new F.called_zip (by decide) (F.typeCall_zip_2 _ _) (F.newCall_zip_2 _ _) (fun obj => F.args_object_init_3 obj _ _) F.entry_zip_new (mixed_meets l m xs ys) ⟨tl, ll, ?_⟩
  have n1 : (mz1 s.heap l).objs.size = s.heap.objs.size + 1 := Heap.size_push ..
  have n2 : (mz2 s.heap l m).objs.size = s.heap.objs.size + 2 := by unfold mz2; rw [Heap.size_push, n1]
  have n3 : (mz3 s.heap l m).objs.size = s.heap.objs.size + 3 := by unfold mz3; rw [Heap.size_push, n2]
  have n4 : (mz4 s.heap l m).objs.size = s.heap.objs.size + 4 := by unfold mz4; rw [Heap.size_push, n3]
  have k5 : ∀ c o, (mz4 s.heap l m).get? c = some o → (mz5 s.heap l m).get? c = some o := fun c o e => Heap.get?_push_of_some _ e
  have k4 : ∀ c o, (mz3 s.heap l m).get? c = some o → (mz5 s.heap l m).get? c = some o := fun c o e => k5 c o (Heap.get?_push_of_some _ e)
  have k3 : ∀ c o, (mz2 s.heap l m).get? c = some o → (mz5 s.heap l m).get? c = some o := fun c o e => k4 c o (Heap.get?_push_of_some _ e)
  have k2 : ∀ c o, (mz1 s.heap l).get? c = some o → (mz5 s.heap l m).get? c = some o := fun c o e => k3 c o (Heap.get?_push_of_some _ e)
  have k1 : ∀ c o, s.heap.get? c = some o → (mz5 s.heap l m).get? c = some o := fun c o e => k2 c o (Heap.get?_push_of_some _ e)
  have e5 : (mz5 s.heap l m).get? (mz4 s.heap l m).objs.size = some { cls := .type "zip", data := .fields #[.none, .bool false, .bool false, .ref (mz2 s.heap l m).objs.size, .ref (mz3 s.heap l m).objs.size] } := Heap.get?_push_size _ rfl
  have e4 : (mz5 s.heap l m).get? (mz3 s.heap l m).objs.size = some { cls := .type "tuple", data := .seq #[.none, .none] } := k5 _ _ (Heap.get?_push_size _ rfl)
  have e3 : (mz5 s.heap l m).get? (mz2 s.heap l m).objs.size = some { cls := .type "tuple", data := .seq #[.ref s.heap.objs.size, .ref (mz1 s.heap l).objs.size] } := k4 _ _ (Heap.get?_push_size _ rfl)
  have e2 : (mz5 s.heap l m).get? (mz1 s.heap l).objs.size = some { cls := .type "list_iterator", data := .fields #[.ref m, .int 0 0] } := k3 _ _ (Heap.get?_push_size _ rfl)
  have e1 : (mz5 s.heap l m).get? s.heap.objs.size = some { cls := .type "tuple_iterator", data := .fields #[.ref l, .int 0 0] } := k2 _ _ (Heap.get?_push_size _ rfl)
  rw [n2, n3, n4] at e5
  rw [n3] at e4
  rw [n1, n2] at e3
  rw [n1] at e2
  show _ ∧ _
  rw [n4]
  exact ⟨⟨_, e5, rfl⟩, fin _ ⟨e5, e3, e4, ⟨_, e1, rfl, rfl⟩, ⟨_, e2, rfl, rfl⟩⟩ k1⟩
end
/-! ### walked -/
/-- the tuple at a and the list at b as they stand at each turn, the items in new pairs -/
def ItzM (K : PySem.W.Frag) (a b : Addr) : L2.It :=
  ⟨fun i H => ∃ (xs ys : List V) (x y : V), SqT K H a xs ∧ SqL K H b ys ∧ xs[i]? = some x ∧ ys[i]? = some y,
    fun i H v H' => ∃ T x y, v = .ref T ∧ H T = none ∧ H' = upd H T (.tup [x, y]) ∧ (∀ xs, SqT K H a xs → xs[i]? = some x) ∧ ∀ ys, SqL K H b ys → ys[i]? = some y,
    fun i H => ∃ xs ys : List V, SqT K H a xs ∧ SqL K H b ys ∧ (xs.length ≤ i ∨ ys.length ≤ i)⟩
theorem mixed_turn {P : Program} {w : World} {K : PySem.W.Frag} {elts : List Expr} {kk : Nat} {tpos : Pos} {a b z p q i1 i2 : Addr} (D : ZipApart z p q i1 i2 a b) :
    Turn P w K (.Tuple elts kk tpos) (ItzM K a b) [z, p, q, i1, i2] z (fun i h => ∃ x y, ZM h z p q i1 i2 a b i .none x y) where
  mem := by simp
  obj := by
    rintro i h ⟨x, y, S⟩ c hc
    have five : c = z ∨ c = p ∨ c = q ∨ c = i1 ∨ c = i2 := by simpa using hc
    rcases five with rfl | rfl | rfl | rfl | rfl
    · exact ⟨_, S.zip, fun v n => by cases n⟩
    · exact ⟨_, S.its, fun v n => by cases n⟩
    · exact ⟨_, S.own, fun v n => by cases n⟩
    · obtain ⟨o, e, _, d⟩ := S.one
      exact ⟨o, e, fun v n => by rw [d] at n; cases n⟩
    · obtain ⟨o, e, _, d⟩ := S.two
      exact ⟨o, e, fun v n => by rw [d] at n; cases n⟩
  keep := by
    rintro i h h' ⟨x, y, S⟩ k
    exact ⟨x, y, k z (by simp) _ S.zip, k p (by simp) _ S.its, k q (by simp) _ S.own, S.one.at fun o e => k i1 (by simp) o e, S.two.at fun o e => k i2 (by simp) o e⟩
  item := by
    rintro X rfl rfl rfl hc i pins s σ H E I free ⟨x0, y0, S⟩ ⟨xs, ys, x, y, sx, sy, ex, ey⟩
    obtain ⟨us, ru, tl, _⟩ := I.tuple sx
    obtain ⟨ws, rw_, ll, _⟩ := I.list sy
    obtain ⟨u, eu, r1⟩ := ru.get ex
    obtain ⟨v, ev, r2⟩ := rw_.get ey
    have ltz : z < s.heap.objs.size := Heap.lt_size S.zip
    refine mixed_next D S tl ll.isList (x := u) (y := v) (by simpa using eu) (by simpa using ev) fun h' S' new kp => ?_
    refine ⟨_, rfl, wpAny_letOwnedTupleGo_zip (s := { s with heap := h' }) S'.zip fun h2 z2 sb => ?_⟩
    have new2 : h2.get? s.heap.objs.size = some { cls := .type "tuple", data := .seq #[u, v] } := (sb.2 _ (Nat.ne_of_gt ltz)).trans new
    have ok : ObjOk X.prog X.w (upd H s.heap.objs.size (.tup [x, y])) h2 s.heap.objs.size (.tup [x, y]) := ⟨by show 2 ≤ sizeLine; decide, [u, v], .cons r1 (.cons r2 .nil), ⟨_, new2, rfl, _, rfl⟩⟩
    have I2 : Inv X pins σ (upd H s.heap.objs.size (.tup [x, y])) { s with heap := h2 } := by
      refine I.turnedNew (t' := s.toks) (ch := [z, p, q, i1, i2]) (fun c o out e => ?_) free (Nat.le_refl _) ok
      simp only [List.mem_cons, List.not_mem_nil, or_false, not_or] at out
      obtain ⟨nz, _, nq, n1, n2⟩ := out
      exact (sb.2 c nz).trans (kp c o nz nq n1 n2 e)
    have at5 : ∀ c o, c ≠ z → h'.get? c = some o → h2.get? c = some o := fun c o nz e => (sb.2 c nz).trans e
    refine ⟨.ref s.heap.objs.size, _, I2, rfl, ⟨_, x, y, rfl, I.hok.fresh (Nat.le_refl _), rfl, fun l hl => by rw [I.tuple_inj hl sx]; exact ex, fun l hl => by rw [I.list_inj hl sy]; exact ey⟩,
      ⟨u, v, z2, at5 _ _ D.TIz S'.its, at5 _ _ D.TOz S'.own, S'.one.at fun o e => at5 _ o D.i1z e, S'.two.at fun o e => at5 _ o D.i2z e⟩, fun c hc => ?_⟩
    have lt : c < s.heap.objs.size := by
      have five : c = z ∨ c = p ∨ c = q ∨ c = i1 ∨ c = i2 := by simpa using hc
      obtain ⟨_, e1, _⟩ := S.one
      obtain ⟨_, e2, _⟩ := S.two
      rcases five with rfl | rfl | rfl | rfl | rfl
      · exact ltz
      · exact Heap.lt_size S.its
      · exact Heap.lt_size S.own
      · exact Heap.lt_size e1
      · exact Heap.lt_size e2
    rw [upd_ne (Nat.ne_of_lt lt)]
    exact (free c hc).1
  done := by
    rintro X rfl rfl rfl hc i pins s σ H E I free ⟨x0, y0, S⟩ ⟨xs, ys, sx, sy, last⟩
    obtain ⟨us, ru, tl, _⟩ := I.tuple sx
    obtain ⟨ws, rw_, ll, _⟩ := I.list sy
    have l1 := ru.length
    have l2 := rw_.length
    have none_ : us.toArray[i]? = none ∨ ws.toArray[i]? = none := last.imp (fun n => by simp; omega) (fun n => by simp; omega)
    refine mixed_stop (I.ok.hd hc) D S tl ll.isList none_ fun h' kp => ⟨rfl, I.turnedL (t' := s.toks) (ch := [z, p, q, i1, i2]) (fun c o out e => ?_) free⟩
    simp only [List.mem_cons, List.not_mem_nil, or_false, not_or] at out
    obtain ⟨nz, _, nq, n1, n2⟩ := out
    exact kp c o nz nq n1 n2 e
  self := by
    rintro A i s Q E ⟨x, y, S⟩ h
    exact wpAny_pyIter_zip S.zip h
def iZipM (K : PySem.W.Frag) (ta : TA) : TI := fun σ H R => ta σ H fun vs H1 => ∃ a b xs ys, vs = [.ref a, .ref b] ∧ SqT K H1 a xs ∧ SqL K H1 b ys ∧ R (ItzM K a b) H1
theorem pi_zipM {X : Cx} {e e2 : Expr} {ta : TA} {p pos tpos : Pos} {elts : List Expr} {kk : Nat} (hg : Gl X "zip") (hm : X.mg "zip" = none) (ha : PA X [e, e2] ta) (h1 : starEach [e, e2] X.env = (false, eval e X.env) :: starEach [e2] X.env)
    (h2 : (backTo pos (starEach [e2] X.env)).any (·.1) = false) : PI X (.Tuple elts kk tpos) (.Call (.Name "zip" p) [e, e2] [] pos) (iZipM X.K ta) := by
  constructor
  intro pins s σ H R I h
  apply Call_ (ld_blt I hg hm PyProof.Rows.boot_zip (PyProof.Rows.callWith_type1 (thn (ha.run pos pins s σ H _ I h) ?_) h1 h2))
  rintro us s1 ⟨vs, H1, I1, rel, a, b, xs, ys, rfl, sx, sy, q⟩
  match us, rel with
  | [_, _], .cons rfl (.cons rfl .nil) =>
    obtain ⟨_, _, tl, _⟩ := I1.tuple sx
    obtain ⟨_, _, ll, _⟩ := I1.list sy
    obtain ⟨ob, eb, _⟩ := id tl
    refine mixed_call tl ll.isList fun h' S kp => wpAny_pyIter_zip S.zip ?_
    refine ⟨s1.heap.objs.size + 4, [s1.heap.objs.size + 4, s1.heap.objs.size + 2, s1.heap.objs.size + 3, s1.heap.objs.size, s1.heap.objs.size + 1], _, _, H1, rfl, I1.kept (t' := s1.toks) kp, mixed_turn (PySem.W.ktu_apart s1.heap.objs.size a b (Heap.lt_size eb) ll.lt), ⟨_, _, S⟩, fun c hc => ?_, q⟩
    have le : s1.heap.objs.size ≤ c := by
      have five : c = s1.heap.objs.size + 4 ∨ c = s1.heap.objs.size + 2 ∨ c = s1.heap.objs.size + 3 ∨ c = s1.heap.objs.size ∨ c = s1.heap.objs.size + 1 := by simpa using hc
      rcases five with rfl | rfl | rfl | rfl | rfl <;> first | exact Nat.le_refl _ | exact Nat.le_add_right _ _
    exact I1.fpOk le (I1.hok.fresh le)
end Fq

set_option maxHeartbeats 4000000
/-! Fq: targets, what is walked, comprehensions, statements. -/
namespace Fq
open PySem PySem.Spec PyProof.Rows L2

section
variable {X : Cx} {e a b c o i tg iter : Expr} {es : List Expr} {pos p apos cpos : Pos} {x : Str} {st : Stmt} {rest : List Stmt}

/-! ### targets -/
/-- what follows a store: only the slots sl are other ones -/
abbrev ThenG (K : PySem.W.Frag) (sl : List Nat) (σ : L2.St) (H : Hp) (m : List Addr) (τ' : En) (h' : MH) (Q : L2.St → Hp → Prop) : Prop :=
  ∀ σ' H' m', Grow H m H' m' → HRel K H' m' h' → ERel K H' m' τ' σ' → σ'.length = σ.length → (∀ j, j ∉ sl → σ'[j]? = σ[j]?) → Q σ' H'
def JG (X : Cx) (tg : Expr) (sl : List Nat) (g : D → En → MH → Option (En × MH)) : Prop :=
  ∃ t, PG X tg t ∧ ∀ v d σ H τ m h τ' h' Q, HRel X.K H m h → ERel X.K H m τ σ → Rep X.K H m d v → g d τ h = some (τ', h') → ThenG X.K sl σ H m τ' h' Q → t v σ H Q
def JGs (X : Cx) (tgs : List Expr) (sl : List Nat) (g : List D → En → MH → Option (En × MH)) : Prop :=
  ∃ t, PGs X tgs t ∧ ∀ vs ds σ H τ m h τ' h' Q, HRel X.K H m h → ERel X.K H m τ σ → RepL X.K H m ds vs → g ds τ h = some (τ', h') → ThenG X.K sl σ H m τ' h' Q → t vs σ H Q
theorem jg_name {n : Nat} (hN : X.N.Nodup) (hi : X.N[n]? = some x) (hx : Loc X.env.scope x) (hf : X.fn x = true ∨ X.env.scope.names.lookup x = some .local) :
    JG X (.Name x pos) [n] fun d τ h => some (τ.set n (some d), h) := by
  refine ⟨_, pg_name hN hi hx hf, ?_⟩
  intro v d σ H τ m h τ' h' Q R E r e k
  cases e
  refine k _ _ _ .refl R (E.set r n) (by simp) fun j hj => ?_
  rw [List.getElem?_set_ne]
  intro z
  exact hj (by simp [z])
theorem jgs_nil : JGs X [] [] fun ds τ h => match ds with
    | [] => some (τ, h)
    | _ :: _ => none := by
  refine ⟨_, pgs_nil, ?_⟩
  intro vs ds σ H τ m h τ' h' Q R E r e k
  cases r with
  | nil => cases e; exact ⟨rfl, k _ _ _ .refl R E rfl fun _ _ => rfl⟩
  | cons _ _ => cases e
/-- a target that assigns by itself -/
def tgPlain : Expr → Bool
  | .Name _ _ => true
  | .Tuple _ _ _ => true
  | .Subscript _ _ _ => true
  | _ => false
theorem assignEach_plain {env : Env} (h : tgPlain e = true) : (assignEach (e :: es) env).map (·.2) = assign e env :: (assignEach es env).map (·.2) := by
  cases e <;> first | rfl | (simp [tgPlain] at h)
theorem assignEach_len {env : Env} : ∀ {es : List Expr}, es.all tgPlain = true → (assignEach es env).length = es.length ∧ (assignEach es env).findIdx? (·.1) = none
  | [], _ => ⟨rfl, rfl⟩
  | e :: es, h => by
    rw [List.all_cons, Bool.and_eq_true] at h
    obtain ⟨h1, h2⟩ := assignEach_len (env := env) h.2
    have : assignEach (e :: es) env = (false, assign e env) :: assignEach es env := by
      have := h.1
      cases e <;> first | rfl | (simp [tgPlain] at this)
    rw [this]
    refine ⟨by simp [h1], ?_⟩
    rw [List.findIdx?_cons]
    simp [h2]
theorem jgs_cons {sl sr : List Nat} {g1 : D → En → MH → Option (En × MH)} {g2 : List D → En → MH → Option (En × MH)} (h1 : JG X e sl g1) (h2 : JGs X es sr g2) (hp : tgPlain e = true) :
    JGs X (e :: es) (sl ++ sr) fun ds τ h => match ds with
      | [] => none
      | d :: dr => (g1 d τ h).bind fun (σ1, h1) => g2 dr σ1 h1 := by
  obtain ⟨t1, p1, o1⟩ := h1
  obtain ⟨t2, p2, o2⟩ := h2
  refine ⟨_, pgs_cons p1 p2 (assignEach_plain hp), ?_⟩
  intro vs ds σ H τ m h τ' h' Q R E r e k
  cases r with
  | nil => cases e
  | cons q qs =>
    obtain ⟨τ1, h1, e1, e2⟩ := bind_pair e
    refine ⟨_, _, rfl, o1 _ _ σ H τ m h τ1 h1 _ R E q e1 fun σ1 H1 m1 gr R1 E1 l1 s1 => ?_⟩
    refine o2 _ _ σ1 H1 τ1 m1 h1 τ' h' _ R1 E1 (qs.mono gr) e2 fun σ2 H2 m2 gr2 R2 E2 l2 s2 => ?_
    refine k σ2 H2 m2 (gr.trans gr2) R2 E2 (l2.trans l1) fun j hj => ?_
    rw [List.mem_append, not_or] at hj
    exact (s2 j hj.2).trans (s1 j hj.1)
theorem pg_or {t u : TG} (h1 : PG X tg t) (h2 : PG X tg u) : PG X tg fun v σ H Q => t v σ H Q ∨ u v σ H Q := by
  refine ⟨fun pins s σ H v u' Q I r h => ?_⟩
  rcases h with h | h
  · exact h1.run pins s σ H v u' Q I r h
  · exact h2.run pins s σ H v u' Q I r h
theorem jg_tup {n : Nat} {sl : List Nat} {g : List D → En → MH → Option (En × MH)} (hc : X.calm = true) (h : JGs X es sl g) (hp : es.all tgPlain = true) (hlen : ∀ ds τ h r, g ds τ h = some r → ds.length = es.length) :
    JG X (.Tuple es n pos) sl fun d τ h => (itemsD h d).bind fun xs => g xs τ h := by
  obtain ⟨t, pt, ot⟩ := h
  obtain ⟨l1, l2⟩ := assignEach_len (env := X.env) hp
  refine ⟨_, pg_or (pg_tup hc pt l1 l2) (pg_unl hc pt l1 l2), ?_⟩
  intro v d σ H τ m h τ' h' Q R E r e k
  obtain ⟨xs, e1, e2⟩ := Option.bind_eq_some_iff.mp e
  obtain ⟨q, vs, rfl, c, rl⟩ := items_of R r e1
  have hl : vs.length = es.length := by rw [← rl.len]; exact hlen _ _ _ _ e2
  rcases c with c | c
  · exact .inr ⟨q, vs, rfl, c, hl, ot vs xs σ H τ m h τ' h' Q R E rl e2 k⟩
  · exact .inl ⟨q, vs, rfl, c, hl, ot vs xs σ H τ m h τ' h' Q R E rl e2 k⟩
theorem jg_sub {go gi : En → MH → Option (D × MH)} (ho : JE X o go) (hi : JE X i gi) (hs : ∀ l u s q, i ≠ .Slice l u s q) :
    JG X (.Subscript o i pos) [] fun d τ h => (go τ h).bind fun (x, h1) => (gi τ h1).bind fun (y, h2) => (setD h2 x y d).map fun h3 => (τ, h3) := by
  obtain ⟨to, po, oo⟩ := ho
  obtain ⟨ti, pi, oi⟩ := hi
  refine ⟨_, pg_sub po pi set_list ?_, ?_⟩
  · intro v
    cases i <;> first | rfl | exact absurd rfl (hs _ _ _ _)
  · intro v d σ H τ m h τ' h' Q R E r e k
    obtain ⟨x, h1, e1, ea⟩ := bind_pair e
    obtain ⟨y, h2, e2, eb⟩ := bind_pair ea
    obtain ⟨h3, e3, ec⟩ := Option.map_eq_some_iff.mp eb
    cases ec
    refine oo σ H τ m h x h1 _ R E e1 fun v1 H1 m1 g1 R1 r1 => ?_
    refine oi σ H1 τ m1 h1 y h2 _ R1 (E.mono g1) e2 fun v2 H2 m2 g2 R2 r2 => ?_
    have r0 := (r.mono g1).mono g2
    have r1' := r1.mono g2
    unfold setD at e3
    split at e3
    · rename_i n kk
      obtain ⟨xs, e4, e5⟩ := Option.bind_eq_some_iff.mp e3
      obtain ⟨j, e6, e7⟩ := Option.map_eq_some_iff.mp e5
      subst e7
      cases r1' with
      | ref hn =>
        cases r2
        obtain ⟨vs, a1, rl⟩ := R2.at' _ _ _ hn e4
        refine ⟨_, vs, _, j, rfl, rfl, a1, by rw [← rl.len]; exact e6, ?_⟩
        have g3 : Grow H2 m2 (upd H2 _ (.lst (vs.set j v))) m2 := grow_set hn a1
        exact k σ _ m2 ((g1.trans g2).trans g3) (R2.setAt hn a1 (rl.set r0 j)) (((E.mono g1).mono g2).mono g3) rfl fun _ _ => rfl
    · cases e3

/-! ### what is walked -/
structure ItOk (K : PySem.W.Frag) (J : L2.It) (s : Src) (H : Hp) (m : List Addr) : Prop where
  stop : ∀ H2 m2 h2 i, Grow H m H2 m2 → HRel K H2 m2 h2 → srcAt h2 s i = some none → J.stop i H2
  go : ∀ H2 m2 h2 i x, Grow H m H2 m2 → HRel K H2 m2 h2 → srcAt h2 s i = some (some x) → J.go i H2 ∧ ∀ v H3, J.yld i H2 v H3 → Grow H2 m2 H3 m2 ∧ HRel K H3 m2 h2 ∧ Rep K H3 m2 x v
def JI (X : Cx) (tg iter : Expr) (g : En → MH → Option (Src × MH)) : Prop :=
  ∃ wi, PI X tg iter wi ∧ ∀ σ H τ m h s h' (R' : L2.It → Hp → Prop), HRel X.K H m h → ERel X.K H m τ σ → g τ h = some (s, h') → (∀ J H' m', Grow H m H' m' → HRel X.K H' m' h' → ItOk X.K J s H' m' → R' J H') → wi σ H R'
theorem pi_or {w1 w2 : TI} (h1 : PI X tg iter w1) (h2 : PI X tg iter w2) : PI X tg iter fun σ H R => w1 σ H R ∨ w2 σ H R := by
  refine ⟨fun pins s σ H R I h => ?_⟩
  rcases h with h | h
  · exact h1.run pins s σ H R I h
  · exact h2.run pins s σ H R I h
end
section
variable {K : PySem.W.Frag} {H : Hp} {m : List Addr}
/-- the list at q holds d's items from here on -/
def LstAt (K : PySem.W.Frag) (H : Hp) (m : List Addr) (d : D) (q : Addr) : Prop :=
  ∀ H2 m2 h2 xs, Grow H m H2 m2 → HRel K H2 m2 h2 → itemsD h2 d = some xs → ∃ vs, SqL K H2 q vs ∧ RepL K H2 m2 xs vs
def TupAt (K : PySem.W.Frag) (H : Hp) (m : List Addr) (d : D) (q : Addr) : Prop :=
  ∀ H2 m2 h2 xs, Grow H m H2 m2 → HRel K H2 m2 h2 → itemsD h2 d = some xs → ∃ vs, SqT K H2 q vs ∧ RepL K H2 m2 xs vs
theorem lst_at {h : MH} (R : HRel K H m h) {d : D} {v : V} (r : Rep K H m d v) (hl : isL d = true) (hi : (itemsD h d).isSome = true) : ∃ q vs, v = .ref q ∧ SqL K H q vs ∧ LstAt K H m d q := by
  cases r with
  | ref hn =>
    obtain ⟨xs, ex⟩ := Option.isSome_iff_exists.mp hi
    obtain ⟨vs, a1, _⟩ := R.at' _ _ _ hn ex
    refine ⟨_, vs, rfl, .of a1, fun H2 m2 h2 ys g R2 e => ?_⟩
    obtain ⟨us, a2, ru⟩ := R2.at' _ _ _ (g.pre _ _ hn) e
    exact ⟨us, .of a2, ru⟩
  | frl a b =>
    refine ⟨_, _, rfl, a.sq, fun H2 m2 h2 ys g R2 e => ?_⟩
    cases e
    exact ⟨_, (g.fzl a).sq, b.mono g⟩
  | _ => simp [isL] at hl
theorem tup_at {h : MH} (R : HRel K H m h) {d : D} {v : V} (r : Rep K H m d v) (hl : isL d = false) (hi : (itemsD h d).isSome = true) : ∃ q vs, v = .ref q ∧ SqT K H q vs ∧ TupAt K H m d q := by
  cases r with
  | tup a b =>
    refine ⟨_, _, rfl, a, fun H2 m2 h2 ys g R2 e => ?_⟩
    cases e
    exact ⟨_, g.sqt a, b.mono g⟩
  | ref => simp [isL] at hl
  | frl => simp [isL] at hl
  | non => simp [itemsD] at hi
  | bl => simp [itemsD] at hi
  | int => simp [itemsD] at hi
  | str => simp [itemsD] at hi
  | dct => simp [itemsD] at hi
theorem LstAt.grow {d : D} {q : Addr} {H' : Hp} {m' : List Addr} (a : LstAt K H m d q) (g : Grow H m H' m') : LstAt K H' m' d q := fun H2 m2 h2 xs g2 R e => a H2 m2 h2 xs (g.trans g2) R e
theorem TupAt.grow {d : D} {q : Addr} {H' : Hp} {m' : List Addr} (a : TupAt K H m d q) (g : Grow H m H' m') : TupAt K H' m' d q := fun H2 m2 h2 xs g2 R e => a H2 m2 h2 xs (g.trans g2) R e
theorem none_len {K : PySem.W.Frag} {xs : List D} {vs : List V} (r : RepL K H m xs vs) {i : Nat} (e : xs[i]? = none) : vs.length ≤ i := by
  rw [← r.len]; exact List.getElem?_eq_none_iff.mp e
theorem itl_ok {d : D} {q : Addr} (a : LstAt K H m d q) : ItOk K (Itl K q) (.sq d) H m where
  stop := fun H2 m2 h2 i g R e => by
    obtain ⟨xs, e1, e2⟩ := Option.map_eq_some_iff.mp e
    obtain ⟨vs, s, r⟩ := a H2 m2 h2 xs g R e1
    exact ⟨vs, s, none_len r e2⟩
  go := fun H2 m2 h2 i x g R e => by
    obtain ⟨xs, e1, e2⟩ := Option.map_eq_some_iff.mp e
    obtain ⟨vs, s, r⟩ := a H2 m2 h2 xs g R e1
    obtain ⟨v, ev, rv⟩ := r.get e2
    refine ⟨⟨vs, v, s, ev⟩, fun u H3 y => ?_⟩
    obtain ⟨rfl, y⟩ := y
    have := (y vs s).symm.trans ev
    cases this
    exact ⟨.refl, R, rv⟩
theorem itt_ok {d : D} {q : Addr} (a : TupAt K H m d q) : ItOk K (Itt K q) (.sq d) H m where
  stop := fun H2 m2 h2 i g R e => by
    obtain ⟨xs, e1, e2⟩ := Option.map_eq_some_iff.mp e
    obtain ⟨vs, s, r⟩ := a H2 m2 h2 xs g R e1
    exact ⟨vs, s, none_len r e2⟩
  go := fun H2 m2 h2 i x g R e => by
    obtain ⟨xs, e1, e2⟩ := Option.map_eq_some_iff.mp e
    obtain ⟨vs, s, r⟩ := a H2 m2 h2 xs g R e1
    obtain ⟨v, ev, rv⟩ := r.get e2
    refine ⟨⟨vs, v, s, ev⟩, fun u H3 y => ?_⟩
    obtain ⟨rfl, y⟩ := y
    have := (y vs s).symm.trans ev
    cases this
    exact ⟨.refl, R, rv⟩
theorem itr_ok {lo : Int} {n : Nat} : ItOk K (Itr lo n) (.rng lo n) H m where
  stop := fun H2 m2 h2 i g R e => by
    simp only [srcAt] at e
    split at e
    · cases e
    · rename_i c; exact Nat.le_of_not_lt c
  go := fun H2 m2 h2 i x g R e => by
    simp only [srcAt] at e
    split at e
    · rename_i c
      cases e
      refine ⟨c, fun v H3 y => ?_⟩
      obtain ⟨rfl, rfl⟩ := y
      exact ⟨.refl, R, .int _⟩
    · cases e
theorem pair_new {h : MH} (R : HRel K H m h) {x y : D} {v w : V} (r : Rep K H m x v) (q : Rep K H m y w) {T : Addr} (hT : H T = none) :
    Grow H m (upd H T (.tup [v, w])) m ∧ HRel K (upd H T (.tup [v, w])) m h ∧ Rep K (upd H T (.tup [v, w])) m (.tup [x, y]) (.ref T) :=
  ⟨grow_new hT, R.newTup hT, .tup (.of upd_same) (.cons (r.mono (grow_new hT)) (.cons (q.mono (grow_new hT)) .nil))⟩
theorem ite_ok {d : D} {q : Addr} (a : LstAt K H m d q) : ItOk K (Ite K q) (.enum d) H m where
  stop := fun H2 m2 h2 i g R e => by
    obtain ⟨xs, e1, e2⟩ := Option.map_eq_some_iff.mp e
    obtain ⟨vs, s, r⟩ := a H2 m2 h2 xs g R e1
    exact ⟨vs, s, none_len r (Option.map_eq_none_iff.mp e2)⟩
  go := fun H2 m2 h2 i x g R e => by
    obtain ⟨xs, e1, e2⟩ := Option.map_eq_some_iff.mp e
    obtain ⟨vs, s, r⟩ := a H2 m2 h2 xs g R e1
    obtain ⟨y, e3, e4⟩ := Option.map_eq_some_iff.mp e2
    subst e4
    obtain ⟨v, ev, rv⟩ := r.get e3
    refine ⟨⟨vs, v, s, ev⟩, fun u H3 yy => ?_⟩
    obtain ⟨T, w, rfl, hT, rfl, y⟩ := yy
    have := (y vs s).symm.trans ev
    cases this
    exact pair_new R (.int _) rv hT
theorem itz_ok {d f : D} {q q2 : Addr} (a : LstAt K H m d q) (b : LstAt K H m f q2) : ItOk K (Itz K q q2) (.zip d f) H m where
  stop := fun H2 m2 h2 i g R e => by
    obtain ⟨xs, e1, e⟩ := Option.bind_eq_some_iff.mp e
    obtain ⟨ys, e2, e⟩ := Option.map_eq_some_iff.mp e
    obtain ⟨vs, s, r⟩ := a H2 m2 h2 xs g R e1
    obtain ⟨ws, s2, r2⟩ := b H2 m2 h2 ys g R e2
    refine ⟨vs, ws, s, s2, ?_⟩
    cases ex : xs[i]? with
    | none => exact .inl (none_len r ex)
    | some x =>
      cases ey : ys[i]? with
      | none => exact .inr (none_len r2 ey)
      | some y => rw [ex, ey] at e; cases e
  go := fun H2 m2 h2 i x g R e => by
    obtain ⟨xs, e1, e⟩ := Option.bind_eq_some_iff.mp e
    obtain ⟨ys, e2, e⟩ := Option.map_eq_some_iff.mp e
    obtain ⟨vs, s, r⟩ := a H2 m2 h2 xs g R e1
    obtain ⟨ws, s2, r2⟩ := b H2 m2 h2 ys g R e2
    obtain ⟨x1, f1, e⟩ := Option.bind_eq_some_iff.mp e
    obtain ⟨y1, f2, e⟩ := Option.map_eq_some_iff.mp e
    subst e
    obtain ⟨v, ev, rv⟩ := r.get f1
    obtain ⟨w, ew, rw'⟩ := r2.get f2
    refine ⟨⟨vs, ws, v, w, s, s2, ev, ew⟩, fun u H3 yy => ?_⟩
    obtain ⟨T, v', w', rfl, hT, rfl, y1, y2⟩ := yy
    have := (y1 vs s).symm.trans ev
    cases this
    have := (y2 ws s2).symm.trans ew
    cases this
    exact pair_new R rv rw' hT
theorem itzT_ok {d f : D} {q q2 : Addr} (a : TupAt K H m d q) (b : TupAt K H m f q2) : ItOk K (RZ.ItzT K q q2) (.zip d f) H m where
  stop := fun H2 m2 h2 i g R e => by
    obtain ⟨xs, e1, e⟩ := Option.bind_eq_some_iff.mp e
    obtain ⟨ys, e2, e⟩ := Option.map_eq_some_iff.mp e
    obtain ⟨vs, s, r⟩ := a H2 m2 h2 xs g R e1
    obtain ⟨ws, s2, r2⟩ := b H2 m2 h2 ys g R e2
    refine ⟨vs, ws, s, s2, ?_⟩
    cases ex : xs[i]? with
    | none => exact .inl (none_len r ex)
    | some x =>
      cases ey : ys[i]? with
      | none => exact .inr (none_len r2 ey)
      | some y => rw [ex, ey] at e; cases e
  go := fun H2 m2 h2 i x g R e => by
    obtain ⟨xs, e1, e⟩ := Option.bind_eq_some_iff.mp e
    obtain ⟨ys, e2, e⟩ := Option.map_eq_some_iff.mp e
    obtain ⟨vs, s, r⟩ := a H2 m2 h2 xs g R e1
    obtain ⟨ws, s2, r2⟩ := b H2 m2 h2 ys g R e2
    obtain ⟨x1, f1, e⟩ := Option.bind_eq_some_iff.mp e
    obtain ⟨y1, f2, e⟩ := Option.map_eq_some_iff.mp e
    subst e
    obtain ⟨v, ev, rv⟩ := r.get f1
    obtain ⟨w, ew, rw'⟩ := r2.get f2
    refine ⟨⟨vs, ws, v, w, s, s2, ev, ew⟩, fun u H3 yy => ?_⟩
    obtain ⟨T, v', w', rfl, hT, rfl, y1, y2⟩ := yy
    have := (y1 vs s).symm.trans ev
    cases this
    have := (y2 ws s2).symm.trans ew
    cases this
    exact pair_new R rv rw' hT
theorem itzM_ok {d f : D} {q q2 : Addr} (a : TupAt K H m d q) (b : LstAt K H m f q2) : ItOk K (ItzM K q q2) (.zip d f) H m where
  stop := fun H2 m2 h2 i g R e => by
    obtain ⟨xs, e1, e⟩ := Option.bind_eq_some_iff.mp e
    obtain ⟨ys, e2, e⟩ := Option.map_eq_some_iff.mp e
    obtain ⟨vs, s, r⟩ := a H2 m2 h2 xs g R e1
    obtain ⟨ws, s2, r2⟩ := b H2 m2 h2 ys g R e2
    refine ⟨vs, ws, s, s2, ?_⟩
    cases ex : xs[i]? with
    | none => exact .inl (none_len r ex)
    | some x =>
      cases ey : ys[i]? with
      | none => exact .inr (none_len r2 ey)
      | some y => rw [ex, ey] at e; cases e
  go := fun H2 m2 h2 i x g R e => by
    obtain ⟨xs, e1, e⟩ := Option.bind_eq_some_iff.mp e
    obtain ⟨ys, e2, e⟩ := Option.map_eq_some_iff.mp e
    obtain ⟨vs, s, r⟩ := a H2 m2 h2 xs g R e1
    obtain ⟨ws, s2, r2⟩ := b H2 m2 h2 ys g R e2
    obtain ⟨x1, f1, e⟩ := Option.bind_eq_some_iff.mp e
    obtain ⟨y1, f2, e⟩ := Option.map_eq_some_iff.mp e
    subst e
    obtain ⟨v, ev, rv⟩ := r.get f1
    obtain ⟨w, ew, rw'⟩ := r2.get f2
    refine ⟨⟨vs, ws, v, w, s, s2, ev, ew⟩, fun u H3 yy => ?_⟩
    obtain ⟨T, v', w', rfl, hT, rfl, y1, y2⟩ := yy
    have := (y1 vs s).symm.trans ev
    cases this
    have := (y2 ws s2).symm.trans ew
    cases this
    exact pair_new R rv rw' hT
end
section
variable {X : Cx} {e a b : Expr} {tg iter : Expr} {elts : List Expr} {kk : Nat} {pos p tpos : Pos}
theorem ji_ex {g : En → MH → Option (D × MH)} (h : JE X e g) : JI X tg e fun τ h => (g τ h).bind fun (x, h1) => if (itemsD h1 x).isSome = true then some (.sq x, h1) else none := by
  obtain ⟨t, pt, ot⟩ := h
  refine ⟨_, pi_or (pi_list pt) (pi_tup pt), ?_⟩
  intro σ H τ m h s h' R' R E e k
  obtain ⟨x, h1, e1, e⟩ := bind_pair e
  simp only at e
  split at e
  · rename_i c
    cases e
    cases hl : isL x with
    | true =>
      refine .inl (ot σ H τ m h x _ _ R E e1 fun v H1 m1 g1 R1 r1 => ?_)
      obtain ⟨q, vs, rfl, s, la⟩ := lst_at R1 r1 hl c
      exact ⟨q, rfl, ⟨vs, s⟩, k _ _ _ g1 R1 (itl_ok la)⟩
    | false =>
      refine .inr (ot σ H τ m h x _ _ R E e1 fun v H1 m1 g1 R1 r1 => ?_)
      obtain ⟨q, vs, rfl, s, la⟩ := tup_at R1 r1 hl c
      exact ⟨q, rfl, ⟨vs, s⟩, k _ _ _ g1 R1 (itt_ok la)⟩
  · cases e
theorem ji_rng1 {g : En → MH → Option (D × MH)} (h : JE X a g) (hs : noStar a = true) (hg : Gl X "range") (hm : X.mg "range" = none) :
    JI X tg (.Call (.Name "range" p) [a] [] pos) fun τ h => (g τ h).bind fun (x, h1) => match x with
      | .int j => if okR j = true then some (.rng 0 j.toNat, h1) else none
      | _ => none := by
  obtain ⟨t, pt, ot⟩ := h
  refine ⟨_, pi_range1 hg hm (pa_cons pt pa_nil (starEach_plain hs)) (starEach_plain hs), ?_⟩
  intro σ H τ m h s h' R' R E e k
  obtain ⟨x, h1, e1, e⟩ := bind_pair e
  refine ot σ H τ m h x _ _ R E e1 fun v H1 m1 g1 R1 r1 => ?_
  cases r1 with
  | int j =>
    simp only at e
    split at e
    · rename_i c
      replace c := okR_to c
      cases e
      exact ⟨j, rfl, c.1, c.2, k _ _ _ g1 R1 itr_ok⟩
    · cases e
  | _ => cases e
theorem ji_rng2 {ga gb : En → MH → Option (D × MH)} (ha : JE X a ga) (hb : JE X b gb) (hs : noStar a = true) (hs2 : noStar b = true) (hg : Gl X "range") (hm : X.mg "range" = none) :
    JI X tg (.Call (.Name "range" p) [a, b] [] pos) fun τ h => (ga τ h).bind fun (x, h1) => (gb τ h1).bind fun (y, h2) => match x, y with
      | .int i, .int j => if (okR i && okR j) = true then some (.rng i (j - i).toNat, h2) else none
      | _, _ => none := by
  obtain ⟨ta, pa, oa⟩ := ha
  obtain ⟨tb, pb, ob⟩ := hb
  refine ⟨_, pi_range2 hg hm (pa_cons pa (pa_cons pb pa_nil (starEach_plain hs2)) (starEach_plain hs)) (by rw [starEach_plain hs, starEach_plain hs2]; rfl) (by rw [starEach_plain hs2]; rfl), ?_⟩
  intro σ H τ m h s h' R' R E e k
  obtain ⟨x, h1, e1, e⟩ := bind_pair e
  obtain ⟨y, h2, e2, e⟩ := bind_pair e
  refine oa σ H τ m h x _ _ R E e1 fun v H1 m1 g1 R1 r1 => ?_
  refine ob σ H1 τ m1 h1 y _ _ R1 (E.mono g1) e2 fun w H2 m2 g2 R2 r2 => ?_
  cases r1 with
  | int i =>
    cases r2 with
    | int j =>
      simp only at e
      split at e
      · rename_i c
        replace c := okR2_to c
        cases e
        exact ⟨i, j, rfl, ⟨c.1, c.2.1, c.2.2.1, c.2.2.2⟩, k _ _ _ (g1.trans g2) R2 itr_ok⟩
      · cases e
    | _ => cases e
  | _ => cases e
theorem ji_enum {g : En → MH → Option (D × MH)} (h : JE X a g) (hs : noStar a = true) (hg : Gl X "enumerate") (hm : X.mg "enumerate" = none) :
    JI X (.Tuple elts kk tpos) (.Call (.Name "enumerate" p) [a] [] pos) fun τ h => (g τ h).bind fun (x, h1) => if (itemsD h1 x).isSome = true ∧ isL x = true then some (.enum x, h1) else none := by
  obtain ⟨t, pt, ot⟩ := h
  refine ⟨_, pi_enum hg hm (pa_cons pt pa_nil (starEach_plain hs)) (starEach_plain hs), ?_⟩
  intro σ H τ m h s h' R' R E e k
  obtain ⟨x, h1, e1, e⟩ := bind_pair e
  simp only at e
  split at e
  · rename_i c
    cases e
    refine ot σ H τ m h x _ _ R E e1 fun v H1 m1 g1 R1 r1 => ?_
    obtain ⟨q, vs, rfl, s, la⟩ := lst_at R1 r1 c.2 c.1
    exact ⟨q, vs, rfl, s, k _ _ _ g1 R1 (ite_ok la)⟩
  · cases e
theorem ji_zip {ga gb : En → MH → Option (D × MH)} (ha : JE X a ga) (hb : JE X b gb) (hs : noStar a = true) (hs2 : noStar b = true) (hg : Gl X "zip") (hm : X.mg "zip" = none) :
    JI X (.Tuple elts kk tpos) (.Call (.Name "zip" p) [a, b] [] pos) fun τ h => (ga τ h).bind fun (x, h1) => (gb τ h1).bind fun (y, h2) => if (itemsD h2 x).isSome = true ∧ (itemsD h2 y).isSome = true ∧ (!isL x || isL y) = true then some (.zip x y, h2) else none := by
  obtain ⟨ta, pa, oa⟩ := ha
  obtain ⟨tb, pb, ob⟩ := hb
  have args := pa_cons pa (pa_cons pb pa_nil (starEach_plain hs2)) (starEach_plain hs)
  refine ⟨_, pi_or (RZ.pi_zipA hg hm args (starEach_plain hs) (back_plain (by simp [hs2]))) (pi_zipM hg hm args (starEach_plain hs) (back_plain (by simp [hs2]))), ?_⟩
  intro σ H τ m h s h' R' R E e k
  obtain ⟨x, h1, e1, e⟩ := bind_pair e
  obtain ⟨y, h2, e2, e⟩ := bind_pair e
  simp only at e
  split at e
  · rename_i c
    cases e
    cases hl : isL x with
    | true =>
      have hr : isL y = true := by simpa [hl] using c.2.2
      refine .inl (oa σ H τ m h x _ _ R E e1 fun v H1 m1 g1 R1 r1 => ?_)
      refine ob σ H1 τ m1 h1 y _ _ R1 (E.mono g1) e2 fun w H2 m2 g2 R2 r2 => ?_
      obtain ⟨q, vs, rfl, s, la⟩ := lst_at R2 (r1.mono g2) hl c.1
      obtain ⟨q2, vs2, rfl, s2, la2⟩ := lst_at R2 r2 hr c.2.1
      exact ⟨q, q2, vs, vs2, rfl, .inl ⟨s, s2, k _ _ _ (g1.trans g2) R2 (itz_ok la la2)⟩⟩
    | false =>
      cases hr : isL y with
      | false =>
        refine .inl (oa σ H τ m h x _ _ R E e1 fun v H1 m1 g1 R1 r1 => ?_)
        refine ob σ H1 τ m1 h1 y _ _ R1 (E.mono g1) e2 fun w H2 m2 g2 R2 r2 => ?_
        obtain ⟨q, vs, rfl, s, la⟩ := tup_at R2 (r1.mono g2) hl c.1
        obtain ⟨q2, vs2, rfl, s2, la2⟩ := tup_at R2 r2 hr c.2.1
        exact ⟨q, q2, vs, vs2, rfl, .inr ⟨s, s2, k _ _ _ (g1.trans g2) R2 (itzT_ok la la2)⟩⟩
      | true =>
        refine .inr (oa σ H τ m h x _ _ R E e1 fun v H1 m1 g1 R1 r1 => ?_)
        refine ob σ H1 τ m1 h1 y _ _ R1 (E.mono g1) e2 fun w H2 m2 g2 R2 r2 => ?_
        obtain ⟨q, vs, rfl, s, la⟩ := tup_at R2 (r1.mono g2) hl c.1
        obtain ⟨q2, vs2, rfl, s2, la2⟩ := lst_at R2 r2 hr c.2.1
        exact ⟨q, q2, vs, vs2, rfl, s, s2, k _ _ _ (g1.trans g2) R2 (itzM_ok la la2)⟩
  · cases e
end
end Fq

set_option maxHeartbeats 4000000
/-! Fq: comprehensions and statements. -/
namespace Fq
open PySem PySem.Spec PyProof.Rows L2

/-! ### the readings that hang on the meaning alone -/
def canE (K : PySem.W.Frag) (g : En → MH → Option (D × MH)) : TE := fun σ H Q => ∃ τ m h d h', HRel K H m h ∧ ERel K H m τ σ ∧ g τ h = some (d, h') ∧ Then K H m d h' Q
def canT (K : PySem.W.Frag) (g : En → MH → Option (Bool × MH)) : TT := fun σ H Q => ∃ τ m h d h', HRel K H m h ∧ ERel K H m τ σ ∧ g τ h = some (d, h') ∧ ThenB K H m d h' Q
def canG (K : PySem.W.Frag) (sl : List Nat) (g : D → En → MH → Option (En × MH)) : TG := fun v σ H Q => ∃ d τ m h τ' h', HRel K H m h ∧ ERel K H m τ σ ∧ Rep K H m d v ∧ g d τ h = some (τ', h') ∧ ThenG K sl σ H m τ' h' Q
section
variable {X : Cx} {e tg elt iter : Expr} {ifs : List Expr}
theorem JE.can {g : En → MH → Option (D × MH)} (h : JE X e g) : PE X e (canE X.K g) := by
  obtain ⟨t, pt, ot⟩ := h
  refine ⟨fun pins s σ H Q I h => pt.run pins s σ H Q I ?_⟩
  obtain ⟨τ, m, h, d, h', R, E, e, k⟩ := h
  exact ot σ H τ m h d h' Q R E e k
theorem JT.can {g : En → MH → Option (Bool × MH)} (h : JT X e g) : PT X e (canT X.K g) := by
  obtain ⟨t, pt, ot⟩ := h
  refine ⟨fun pins s σ H Q I h => pt.run pins s σ H Q I ?_⟩
  obtain ⟨τ, m, h, d, h', R, E, e, k⟩ := h
  exact ot σ H τ m h d h' Q R E e k
theorem JG.can {sl : List Nat} {g : D → En → MH → Option (En × MH)} (h : JG X tg sl g) : PG X tg (canG X.K sl g) := by
  obtain ⟨t, pt, ot⟩ := h
  refine ⟨fun pins s σ H v u Q I r h => pt.run pins s σ H v u Q I r ?_⟩
  obtain ⟨d, τ, m, h, τ', h', R, E, r, e, k⟩ := h
  exact ot v d σ H τ m h τ' h' Q R E r e k
/-- a clause's tests -/
def JTs (X : Cx) (ifs : List Expr) (g : En → MH → Option (Bool × MH)) : Prop := (ifs = [] ∧ ∀ τ h, g τ h = some (true, h)) ∨ ∃ c, ifs = [c] ∧ JT X c g
theorem JTs.can {g : En → MH → Option (Bool × MH)} (h : JTs X ifs g) : PTs X ifs (canT X.K g) := by
  rcases h with ⟨rfl, hg⟩ | ⟨c, rfl, h⟩
  · refine ⟨fun pins s σ H Q I h => pts_nil.run pins s σ H Q I ?_⟩
    obtain ⟨τ, m, h, d, h', R, E, e, k⟩ := h
    rw [hg] at e
    cases e
    exact k _ _ .refl R
  · exact pts_one h.can
end

theorem lcL_len {src : Src} {f : D → MH → Option (Option D × MH)} : ∀ {k i : Nat} {acc ys : List D} {h h' : MH}, lcL src f k i acc h = some (ys, h') → acc.length ≤ ys.length
  | 0, _, _, _, _, _, e => by cases e
  | k + 1, i, acc, ys, h, h', e => by
    simp only [lcL] at e
    obtain ⟨o, e1, e2⟩ := Option.bind_eq_some_iff.mp e
    cases o with
    | none => cases e2; exact Nat.le_refl _
    | some x =>
      obtain ⟨p, h1, e3, e4⟩ := bind_pair e2
      cases p with
      | none => exact lcL_len e4
      | some y =>
        have := lcL_len e4
        simp at this
        omega
theorem wipe_get (σ : L2.St) (i : Nat) : ∀ vs : List Nat, (L2.wipe σ vs)[i]? = if i ∈ vs then (σ[i]?).map (fun _ => none) else σ[i]?
  | [] => by simp [L2.wipe]
  | v :: vs => by
    have ih := wipe_get σ i vs
    unfold L2.wipe
    by_cases hv : i = v
    · subst hv
      rw [if_pos List.mem_cons_self]
      by_cases hl : i < σ.length
      · rw [List.getElem?_set_self (by rw [wipe_length]; exact hl), List.getElem?_eq_getElem hl]
        rfl
      · rw [List.getElem?_eq_none (by simp [wipe_length]; omega), List.getElem?_eq_none (by omega)]
        rfl
    · rw [List.getElem?_set_ne (Ne.symm hv), ih]
      simp [hv]
theorem wipe_same {σ σ2 : L2.St} {vs : List Nat} (hl : σ2.length = σ.length) (hs : ∀ j, j ∉ vs → σ2[j]? = (L2.wipe σ vs)[j]?) : L2.wipe σ2 vs = L2.wipe σ vs := by
  apply List.ext_getElem?
  intro i
  rw [wipe_get σ2, wipe_get σ]
  by_cases h : i ∈ vs
  · rw [if_pos h, if_pos h]
    by_cases hi : i < σ.length
    · rw [List.getElem?_eq_getElem hi, List.getElem?_eq_getElem (by omega)]; rfl
    · rw [List.getElem?_eq_none (by omega), List.getElem?_eq_none (by omega)]
  · rw [if_neg h, if_neg h, hs i h, wipe_get σ, if_neg h]
section
variable {K : PySem.W.Frag} {H H0 : Hp} {m m0 : List Addr}
/-- a list that stood by itself is taken into the heap of the data -/
theorem HRel.adopt {h : MH} (R : HRel K H m h) {p : Addr} {xs : List D} {vs : List V} (hp : H p = some (.lst vs)) (hn : p ∉ m) (r : RepL K H m xs vs) (g0 : Grow H0 m0 H m) (h0 : H0 p = none) : HRel K H (m ++ [p]) (h ++ [xs]) ∧ Grow H0 m0 H (m ++ [p]) := by
  have pre : ∀ (n : Nat) (a : Addr), m[n]? = some a → (m ++ [p])[n]? = some a := fun n a h => by rw [List.getElem?_append_left (List.getElem?_eq_some_iff.mp h).1]; exact h
  have u : Up H m H (m ++ [p]) := ⟨pre, fun _ _ h => h, fun _ _ _ h => h, fun _ _ _ h => h⟩
  refine ⟨⟨by simp [R.len], ?_, fun n a ys e1 e2 => ?_⟩, ⟨fun n a h => pre n a (g0.pre n a h), g0.tups, g0.frzs, g0.dks⟩, g0.keep, fun a h => ?_⟩
  · rw [List.nodup_append]
    refine ⟨R.nd, by simp, fun a ha b hb => ?_⟩
    have : b = p := by simpa using hb
    subst this
    intro z
    subst z
    exact hn ha
  · by_cases hl : n < m.length
    · rw [List.getElem?_append_left hl] at e1
      rw [List.getElem?_append_left (by rw [← R.len]; exact hl)] at e2
      obtain ⟨ws, e3, q⟩ := R.at' n a ys e1 e2
      exact ⟨ws, e3, q.up u⟩
    · have l1 := (List.getElem?_eq_some_iff.mp e1).1
      simp at l1
      have e : n = m.length := by omega
      subst e
      simp at e1
      subst e1
      rw [R.len] at e2
      simp at e2
      subst e2
      exact ⟨vs, hp, r.up u⟩
  · rcases List.mem_append.mp h with h | h
    · exact g0.new a h
    · have : a = p := by simpa using h
      subst this
      exact .inr h0
end

/-! ### list comprehensions -/
abbrev lcStep (gt : D → En → MH → Option (En × MH)) (gs : En → MH → Option (Bool × MH)) (ge : En → MH → Option (D × MH)) (τ0 : En) : D → MH → Option (Option D × MH) :=
  fun x h2 => (gt x τ0 h2).bind fun (σ', h3) => (gs σ' h3).bind fun (b, h4) => match b with
    | true => (ge σ' h4).map fun (y, h5) => (some y, h5)
    | false => some (none, h4)
abbrev lcMean (sl : List Nat) (gi : En → MH → Option (Src × MH)) (gt : D → En → MH → Option (En × MH)) (gs : En → MH → Option (Bool × MH)) (ge : En → MH → Option (D × MH)) : En → MH → Option (D × MH) :=
  fun τ h => (gi τ h).bind fun (src, h1) => (lcL src (lcStep gt gs ge (wipeD τ sl)) (srcLen h1 src + 1) 0 [] h1).bind fun (ys, h6) => if ys.length ≤ LIM then some (.ref h6.length, h6 ++ [ys]) else none
theorem lc_ok {K : PySem.W.Frag} {wi : TI} {sl : List Nat} {gi : En → MH → Option (Src × MH)} {gt : D → En → MH → Option (En × MH)} {gs : En → MH → Option (Bool × MH)} {ge : En → MH → Option (D × MH)}
    (oi : ∀ σ H τ m h s h' (R' : L2.It → Hp → Prop), HRel K H m h → ERel K H m τ σ → gi τ h = some (s, h') → (∀ J H' m', Grow H m H' m' → HRel K H' m' h' → ItOk K J s H' m' → R' J H') → wi σ H R') :
    TEok K (tLc wi (canG K sl gt) (canT K gs) (canE K ge) sl) (lcMean sl gi gt gs ge) := by
  intro σ H τ m h d h' Q R E e k
  obtain ⟨src, h1, e1, e⟩ := bind_pair e
  obtain ⟨ys, h6, e2, e⟩ := bind_pair e
  simp only at e
  split at e
  · rename_i hlim
    cases e
    refine oi σ H τ m h src h1 _ R E e1 fun J H1 m1 g1 R1 J1 => ?_
    intro Dd hD
    have gD : Grow H1 m1 (upd H1 Dd (.lst [])) m1 := grow_new hD
    have nD : Dd ∉ m1 := fun z => by
      obtain ⟨n, en⟩ := List.mem_iff_getElem?.mp z
      have hn1 : n < h1.length := by rw [← R1.len]; exact (List.getElem?_eq_some_iff.mp en).1
      obtain ⟨vs, ev, _⟩ := R1.at' n Dd h1[n] en (List.getElem?_eq_getElem hn1)
      rw [hD] at ev; cases ev
    have RD : HRel K (upd H1 Dd (.lst [])) m1 h1 := R1.mono gD fun a ws e => by rw [upd_ne (ne_of_none e hD)]; exact e
    refine ⟨fun i n H2 => ∃ m2 h2 acc accV, Grow H1 m1 H2 m2 ∧ HRel K H2 m2 h2 ∧ H2 Dd = some (.lst accV) ∧ RepL K H2 m2 acc accV ∧ Dd ∉ m2 ∧ lcL src (lcStep gt gs ge (wipeD τ sl)) n i acc h2 = some (ys, h6),
      ⟨_, m1, h1, [], [], gD, RD, upd_same, .nil, nD, e2⟩, ?_⟩
    rintro i n H2 ⟨m2, h2, acc, accV, g2, R2, eD, ra, nD2, run⟩
    cases n with
    | zero => cases run
    | succ n =>
      simp only [lcL] at run
      obtain ⟨o, s1, run⟩ := Option.bind_eq_some_iff.mp run
      cases o with
      | none =>
        cases run
        refine .inl ⟨J1.stop H2 m2 _ i g2 R2 s1, ?_⟩
        obtain ⟨R3, g3⟩ := R2.adopt eD nD2 ra g2 hD
        refine k _ _ _ (g1.trans g3) R3 (.ref ?_)
        rw [← R2.len]; simp
      | some x =>
        obtain ⟨o2, h3, s2, run⟩ := bind_pair run
        obtain ⟨jgo, jy⟩ := J1.go H2 m2 h2 i x g2 R2 s1
        refine .inr ⟨jgo, fun H9 => ∃ m2 h2 acc accV, Grow H1 m1 H9 m2 ∧ HRel K H9 m2 h2 ∧ H9 Dd = some (.lst accV) ∧ RepL K H9 m2 acc accV ∧ Dd ∉ m2 ∧ lcL src (lcStep gt gs ge (wipeD τ sl)) n (i + 1) acc h2 = some (ys, h6), fun H9 w => ⟨n, Nat.lt_succ_self n, w⟩, fun v H3 y => ?_⟩
        obtain ⟨g3, R3, rx⟩ := jy v H3 y
        obtain ⟨τ4, h4, s3, s2⟩ := bind_pair s2
        obtain ⟨bb, h5, s4, s2⟩ := bind_pair s2
        have gto : ∀ {H m}, Grow H2 m2 H m → Dd ∉ m ∧ H Dd = some (.lst accV) := fun {H m} g => by
          refine ⟨fun z => ?_, g.keep _ _ eD nD2⟩
          rcases g.new _ z with q | q
          · exact nD2 q
          · rw [eD] at q; cases q
        refine ⟨x, wipeD τ sl, m2, h2, τ4, h4, R3, ((E.mono g1).mono (g2.trans g3)).wipe sl, rx, s3, fun σ4 H4 m4 g4 R4 E4 l4 f4 => ⟨wipe_same (by rw [l4, wipe_length]) f4, ?_⟩⟩
        refine ⟨τ4, m4, h4, bb, h5, R4, E4, s4, fun H5 m5 g5 R5 => ?_⟩
        have g25 := (g3.trans g4).trans g5
        cases bb with
        | true =>
          obtain ⟨yv, h7, s5, s6⟩ := map_pair s2
          cases s6
          refine iteT ⟨τ4, m5, h5, yv, _, R5, E4.mono g5, s5, fun w H6 m6 g6 R6 r6 => ?_⟩
          have g26 := g25.trans g6
          obtain ⟨n6, eD6⟩ := gto g26
          have la : (acc ++ [yv]).length ≤ ys.length := lcL_len run
          refine ⟨accV, eD6, ?_, ?_⟩
          · rw [← ra.len]
            simp at la
            exact Nat.lt_of_lt_of_le (by omega) (Nat.le_trans hlim lim_line)
          · have ra6 := (ra.mono g26).app (.cons r6 .nil)
            have gu : Up H6 m6 (upd H6 Dd (.lst (accV ++ [w]))) m6 := ⟨fun _ _ h => h, fun a xs q => by rw [upd_ne (ne_of q eD6 (by intro z; cases z))]; exact q, fun a ob u q => by rw [upd_ne (ne_of q eD6 (by intro z; cases z))]; exact q, fun a kvs _ q => by rw [upd_ne (ne_of q eD6 (by intro z; cases z))]; exact q⟩
            refine ⟨m6, _, acc ++ [yv], accV ++ [w], ⟨⟨fun n a q => (g2.trans g26).pre n a q, fun a xs q => gu.tups _ _ ((g2.trans g26).tups _ _ q), fun a ob u q => gu.frzs _ _ _ ((g2.trans g26).frzs _ _ _ q), fun a kvs n q => gu.dks _ _ n ((g2.trans g26).dks _ _ n q)⟩, fun a ob q n => ?_, (g2.trans g26).new⟩, ⟨R6.len, R6.nd, fun n a xs q1 q2 => ?_⟩, upd_same, ra6.up gu, n6, run⟩
            · rw [upd_ne (ne_of_none q hD)]
              exact (g2.trans g26).keep _ _ q n
            · obtain ⟨vs, q3, q4⟩ := R6.at' n a xs q1 q2
              exact ⟨vs, by rw [upd_ne (fun z => n6 (by rw [← z]; exact List.mem_of_getElem? q1))]; exact q3, q4.up gu⟩
        | false =>
          cases s2
          obtain ⟨n6, eD6⟩ := gto g25
          exact iteF ⟨m5, _, acc, accV, g2.trans g25, R5, eD6, ra.mono g25, n6, run⟩
  · cases e
section
variable {X : Cx} {elt tg iter : Expr} {ifs : List Expr} {scope : Scope} {own : List (Str × Nat)} {pos : Pos}
  {gi : En → MH → Option (Src × MH)} {gt : D → En → MH → Option (En × MH)} {gs : En → MH → Option (Bool × MH)} {ge : En → MH → Option (D × MH)}
theorem je_lc (hc : X.calm = true) (hN : X.N.Nodup) (hi : JI X tg iter gi) (ok : BlkOk X.N X.env.scope scope own)
    (hg : ∀ (s : Shared) (H : Hp) (C : Addr) (cl : List (Str × Addr)) (fp : List Addr), JG (X.blk s H scope (compEnvC scope cl C X.env) fp) tg (own.map (·.2)) gt)
    (ht : ∀ (s : Shared) (H : Hp) (C : Addr) (cl : List (Str × Addr)) (fp : List Addr), JTs (X.blk s H scope (compEnvC scope cl C X.env) fp) ifs gs)
    (he : ∀ (s : Shared) (H : Hp) (C : Addr) (cl : List (Str × Addr)) (fp : List Addr), JE (X.blk s H scope (compEnvC scope cl C X.env) fp) elt ge) (hs : ∀ x, foldedSetIterable iter X.env x = pure x) :
    JE X (.ListComp elt [⟨tg, iter, ifs, 0⟩] scope pos) (lcMean (own.map (·.2)) gi gt gs ge) := by
  obtain ⟨wi, pw, ow⟩ := hi
  exact ⟨_, pe_lc hc hN pw ok (fun s H C cl fp => (hg s H C cl fp).can) (fun s H C cl fp => (ht s H C cl fp).can) (fun s H C cl fp => (he s H C cl fp).can) hs, lc_ok ow⟩
end
end Fq

set_option maxHeartbeats 4000000
/-! Fq: statements. -/
namespace Fq
open PySem PySem.Spec PyProof.Rows L2

def EndsOk (K : PySem.W.Frag) (D : Ends) (H : Hp) (m : List Addr) (fl : Fl) (τ' : En) (h' : MH) : Prop :=
  match fl with
  | .nx => ∀ σ' H' m', Grow H m H' m' → HRel K H' m' h' → ERel K H' m' τ' σ' → D.nx σ' H'
  | .bk => ∀ σ' H' m', Grow H m H' m' → HRel K H' m' h' → ERel K H' m' τ' σ' → D.bk σ' H'
  | .ct => ∀ σ' H' m', Grow H m H' m' → HRel K H' m' h' → ERel K H' m' τ' σ' → D.ct σ' H'
  | .rt d => ∀ v H' m', Grow H m H' m' → HRel K H' m' h' → Rep K H' m' d v → D.rt v H'
theorem EndsOk.grow {K : PySem.W.Frag} {D : Ends} {H H1 : Hp} {m m1 : List Addr} {fl : Fl} {τ' : En} {h' : MH} (k : EndsOk K D H m fl τ' h') (g : Grow H m H1 m1) : EndsOk K D H1 m1 fl τ' h' := by
  cases fl with
  | nx => exact fun σ' H' m' g' => k σ' H' m' (g.trans g')
  | bk => exact fun σ' H' m' g' => k σ' H' m' (g.trans g')
  | ct => exact fun σ' H' m' g' => k σ' H' m' (g.trans g')
  | rt d => exact fun v H' m' g' => k v H' m' (g.trans g')
def TSok (K : PySem.W.Frag) (t : TS) (g : En → MH → SR) : Prop :=
  ∀ (D : Ends) σ H τ m h fl τ' h', HRel K H m h → ERel K H m τ σ → g τ h = some (fl, τ', h') → EndsOk K D H m fl τ' h' → t D σ H
def JS (X : Cx) (st : Stmt) (g : En → MH → SR) : Prop := ∃ t, PS X st t ∧ TSok X.K t g
def JSs (X : Cx) (sts : List Stmt) (g : En → MH → SR) : Prop := ∃ t, PSs X sts t ∧ TSok X.K t g
theorem bind3 {γ : Type} {o : SR} {f : Fl × En × MH → Option γ} {r : γ} (h : o.bind f = some r) : ∃ x y z, o = some (x, y, z) ∧ f (x, y, z) = some r := by
  cases o with
  | none => cases h
  | some p => exact ⟨p.1, p.2.1, p.2.2, rfl, h⟩
section
variable {X : Cx} {st : Stmt} {rest sts : List Stmt} {e a b c tg iter : Expr} {pos p px py pt pt2 : Pos} {x y : Str}
theorem jss_nil : JSs X [] fun τ h => some (.nx, τ, h) := by
  refine ⟨_, pss_nil, ?_⟩
  intro D σ H τ m h fl τ' h' R E e k
  cases e
  exact k _ _ _ .refl R E
theorem jss_cons {g1 g2 : En → MH → SR} (h1 : JS X st g1) (h2 : JSs X rest g2) :
    JSs X (st :: rest) fun τ h => (g1 τ h).bind fun (fl, σ1, h1) => match fl with
      | .nx => g2 σ1 h1
      | .bk => some (.bk, σ1, h1)
      | .ct => some (.ct, σ1, h1)
      | .rt d => some (.rt d, σ1, h1) := by
  obtain ⟨t1, p1, o1⟩ := h1
  obtain ⟨t2, p2, o2⟩ := h2
  refine ⟨_, pss_cons p1 p2, ?_⟩
  intro D σ H τ m h fl τ' h' R E e k
  obtain ⟨f1, τ1, h1, e1, e2⟩ := bind3 e
  refine o1 _ σ H τ m h f1 τ1 h1 R E e1 ?_
  cases f1 with
  | nx => exact fun σ1 H1 m1 g R1 E1 => o2 D σ1 H1 τ1 m1 h1 fl τ' h' R1 E1 e2 (k.grow g)
  | bk => cases e2; exact k
  | ct => cases e2; exact k
  | rt d => cases e2; exact k
theorem js_never {g : En → MH → SR} (hg : ∀ τ h, g τ h = none) : JS X st g :=
  ⟨_, ps_never, fun _ _ _ τ _ h _ _ _ _ _ e _ => by rw [hg] at e; cases e⟩
theorem js_pass : JS X (.Pass pos) fun τ h => some (.nx, τ, h) := by
  refine ⟨_, ps_pass, ?_⟩
  intro D σ H τ m h fl τ' h' R E e k
  cases e
  exact k _ _ _ .refl R E
theorem js_break : JS X (.Break pos) fun τ h => some (.bk, τ, h) := by
  refine ⟨_, ps_break, ?_⟩
  intro D σ H τ m h fl τ' h' R E e k
  cases e
  exact k _ _ _ .refl R E
theorem js_cont : JS X (.Continue pos) fun τ h => some (.ct, τ, h) := by
  refine ⟨_, ps_continue, ?_⟩
  intro D σ H τ m h fl τ' h' R E e k
  cases e
  exact k _ _ _ .refl R E
/-- what is no comprehension -/
def noComp : Expr → Bool
  | .ListComp _ _ _ _ => false
  | .SetComp _ _ _ _ => false
  | .DictComp _ _ _ _ _ => false
  | _ => true
theorem swaps_plain {t : Option Expr} {l : Nat} {env : Env} (h : noComp e = true) : swapsWith e t l env = pure false := by
  cases e <;> first | rfl | (simp [noComp] at h)
theorem js_expr {g : En → MH → Option (D × MH)} (h : JE X e g) (hc : noComp e = true) : JS X (.Expr e pos) fun τ h => (g τ h).map fun (_, h1) => (.nx, τ, h1) := by
  obtain ⟨t, pt, ot⟩ := h
  refine ⟨_, ps_expr pt (swaps_plain hc), ?_⟩
  intro D σ H τ m h fl τ' h' R E e k
  obtain ⟨d, h1, e1, e2⟩ := map_pair e
  cases e2
  exact ot σ H τ m h d _ _ R E e1 fun v H1 m1 g1 R1 r1 => k _ _ _ g1 R1 (E.mono g1)
theorem js_ret {g : En → MH → Option (D × MH)} (h : JE X e g) : JS X (.Return (some e) pos) fun τ h => (g τ h).map fun (x, h1) => (.rt x, τ, h1) := by
  obtain ⟨t, pt, ot⟩ := h
  refine ⟨_, ps_ret pt, ?_⟩
  intro D σ H τ m h fl τ' h' R E e k
  obtain ⟨d, h1, e1, e2⟩ := map_pair e
  cases e2
  exact ot σ H τ m h d _ _ R E e1 k
theorem js_retN : JS X (.Return none pos) fun τ h => some (.rt .non, τ, h) := by
  refine ⟨_, ps_retN, ?_⟩
  intro D σ H τ m h fl τ' h' R E e k
  cases e
  exact k _ _ _ .refl R .non
theorem js_if {gc : En → MH → Option (Bool × MH)} {ga gb : En → MH → SR} (hc : JT X c gc) (ha : JSs X sts ga) (hb : JSs X rest gb) :
    JS X (.If c sts rest pos) fun τ h => (gc τ h).bind fun (t, h1) => match t with
      | true => ga τ h1
      | false => gb τ h1 := by
  obtain ⟨tc, pc, oc⟩ := hc
  obtain ⟨ta, pa, oa⟩ := ha
  obtain ⟨tb, pb, ob⟩ := hb
  refine ⟨_, ps_if pc pa pb, ?_⟩
  intro D σ H τ m h fl τ' h' R E e k
  obtain ⟨t, h1, e1, e2⟩ := bind_pair e
  refine oc σ H τ m h t h1 _ R E e1 fun H1 m1 g1 R1 => ?_
  cases t with
  | true => exact iteT (oa D σ H1 τ m1 h1 fl τ' h' R1 (E.mono g1) e2 (k.grow g1))
  | false => exact iteF (ob D σ H1 τ m1 h1 fl τ' h' R1 (E.mono g1) e2 (k.grow g1))
/-- a target and a value that are not two displays -/
def noDisp : Expr → Expr → Bool
  | .Tuple _ _ _, .Tuple vs _ _ => vs.all (foldedForSure 8)
  | .Name _ _, _ => true
  | .Subscript _ _ _, _ => true
  | .Tuple _ _ _, .Name _ _ => true
  | .Tuple _ _ _, .Call _ _ _ _ => true
  | .Tuple _ _ _, .Subscript _ _ _ => true
  | _, _ => false
theorem swapped_plain {env : Env} (h : noDisp tg e = true) (hst : ∀ vs k p, e = .Tuple vs k p → vs.all noStar = true) : swappedStores [tg] e env = pure none := by
  cases tg <;> first
    | rfl
    | (simp [noDisp] at h; done)
    | (cases e <;> first
        | rfl
        | (simp [noDisp] at h; done)
        | (rename_i ts k1 p1 vs k2 p2
           have h : vs.all (foldedForSure 8) = true := h
           have hst := hst _ _ _ rfl
           have hs : (vs.any fun | .Starred .. => true | _ => false) = false := by
             rw [List.any_eq_false]
             intro z hz
             have := List.all_eq_true.mp hst z hz
             cases z <;> first | (simp; done) | (simp [noStar] at this)
           unfold swappedStores
           simp only [h, hs]
           repeat (first | rfl | split)))
theorem fm_short {α β : Type} {f : α → Option β} : ∀ {ts : List α}, (∃ t ∈ ts, f t = none) → (ts.filterMap f).length < ts.length
  | [], h => by obtain ⟨_, h, _⟩ := h; cases h
  | t :: r, h => by
    rw [List.filterMap_cons]
    cases e : f t with
    | none =>
      have := List.length_filterMap_le f r
      show (r.filterMap f).length < r.length + 1
      omega
    | some y =>
      have : ∃ t ∈ r, f t = none := by
        obtain ⟨u, hu, eu⟩ := h
        rcases List.mem_cons.mp hu with z | z
        · rw [z, e] at eu; cases eu
        · exact ⟨u, z, eu⟩
      have := fm_short this
      show (r.filterMap f).length + 1 < r.length + 1
      omega
theorem swapped_cell {env : Env} {ts vs : List Expr} {k1 k2 : Nat} {p1 p2 : Pos} (hst : vs.all noStar = true) (h : ¬ (ts.length = 2 ∨ ts.length = 3) ∨ ∃ t ∈ ts, ∀ y p, t = .Name y p → env.kindOf y ≠ some .local) :
    swappedStores [.Tuple ts k1 p1] (.Tuple vs k2 p2) env = pure none := by
  have hs : (vs.any fun | .Starred .. => true | _ => false) = false := by
    rw [List.any_eq_false]
    intro z hz
    have := List.all_eq_true.mp hst z hz
    cases z <;> first | (simp; done) | (simp [noStar] at this)
  rcases h with h | h
  · unfold swappedStores
    simp only []
    have c : (!(ts.length == 2 || ts.length == 3) || vs.length != ts.length || env.blockKind != .function) = true := by
      have : (ts.length == 2 || ts.length == 3) = false := by
        simp only [Bool.or_eq_false_iff, beq_eq_false_iff_ne]
        omega
      rw [this]; rfl
    rw [if_pos c]
  · unfold swappedStores
    simp only []
    have sh := fm_short (f := fun
      | .Name id pos => if env.kindOf id == some .local && pos.line == (ts.head?.map (·.pos.line)).getD 0 then some id else none
      | _ => none) (ts := ts) (by
      obtain ⟨t, ht, e⟩ := h
      refine ⟨t, ht, ?_⟩
      cases t <;> first
        | rfl
        | (rename_i y p
           have := e y p rfl
           have q : (env.kindOf y == some .local) = false := by simpa using this
           simp only [q, Bool.false_and, if_false, Bool.false_eq_true]))
    split
    · rfl
    · rw [if_neg (fun z => by
        have z2 : (vs.any fun | .Starred .. => true | _ => false) = true := z
        rw [hs] at z2
        cases z2)]
      have c : ∀ (l : List Str) (b : Bool), l.length < ts.length → (l.length != ts.length || b) = true := by
        intro l b hl
        have : (l.length != ts.length) = true := by simp; omega
        rw [this]; rfl
      exact if_pos (c _ _ sh)
theorem js_asgC {sl : List Nat} {g : En → MH → Option (D × MH)} {gt : D → En → MH → Option (En × MH)} (h : JE X e g) (ht : JG X tg sl gt) (hc : ∀ l, swapsWith e (some tg) l X.env = pure false) (hd : swappedStores [tg] e X.env = pure none) (hp : tgPlain tg = true) :
    JS X (.Assign [tg] e pos) fun τ h => (g τ h).bind fun (x, h1) => (gt x τ h1).map fun (σ1, h2) => (.nx, σ1, h2) := by
  obtain ⟨t, pt, ot⟩ := h
  obtain ⟨u, pu, ou⟩ := ht
  refine ⟨_, ps_asg pt pu (hc _) hd (by rw [assignEach_plain hp]; rfl), ?_⟩
  intro D σ H τ m h fl τ' h' R E e k
  obtain ⟨d, h1, e1, e2⟩ := bind_pair e
  obtain ⟨τ2, h2, e3, e4⟩ := map_pair e2
  cases e4
  refine ot σ H τ m h d h1 _ R E e1 fun v H1 m1 g1 R1 r1 => ?_
  exact ou v d σ H1 τ m1 h1 _ _ _ R1 (E.mono g1) r1 e3 fun σ' H2 m2 g2 R2 E2 _ _ => k _ _ _ (g1.trans g2) R2 E2
theorem js_asg {sl : List Nat} {g : En → MH → Option (D × MH)} {gt : D → En → MH → Option (En × MH)} (h : JE X e g) (ht : JG X tg sl gt) (hc : noComp e = true) (hd : noDisp tg e = true) (hst : ∀ vs k p, e = .Tuple vs k p → vs.all noStar = true) (hp : tgPlain tg = true) :
    JS X (.Assign [tg] e pos) fun τ h => (g τ h).bind fun (x, h1) => (gt x τ h1).map fun (σ1, h2) => (.nx, σ1, h2) := by
  obtain ⟨t, pt, ot⟩ := h
  obtain ⟨u, pu, ou⟩ := ht
  refine ⟨_, ps_asg pt pu (swaps_plain hc) (swapped_plain hd hst) (by rw [assignEach_plain hp]; rfl), ?_⟩
  intro D σ H τ m h fl τ' h' R E e k
  obtain ⟨d, h1, e1, e2⟩ := bind_pair e
  obtain ⟨τ2, h2, e3, e4⟩ := map_pair e2
  cases e4
  refine ot σ H τ m h d h1 _ R E e1 fun v H1 m1 g1 R1 r1 => ?_
  exact ou v d σ H1 τ m1 h1 _ _ _ R1 (E.mono g1) r1 e3 fun σ' H2 m2 g2 R2 E2 _ _ => k _ _ _ (g1.trans g2) R2 E2
theorem js_aug {n : Nat} {g : En → MH → Option (D × MH)} {op : Operator} {f : Int → Int → Int} (hN : X.N.Nodup) (hi : X.N[n]? = some x) (hx : Loc X.env.scope x) (h : JE X e g) (ho : PIp X op (ipI f)) (hf : X.fn x = true ∨ X.env.scope.names.lookup x = some .local) :
    JS X (.AugAssign (.Name x p) op e pos) fun τ h => (τ[n]?).bind fun q => q.bind fun x => (g τ h).bind fun (y, h1) => match x, y with
      | .int a, .int b => some (.nx, τ.set n (some (.int (f a b))), h1)
      | _, _ => none := by
  obtain ⟨t, pt, ot⟩ := h
  refine ⟨_, ps_aug hN hi hx pt ho hf, ?_⟩
  intro D σ H τ m h fl τ' h' R E e k
  obtain ⟨q, e1, e2⟩ := Option.bind_eq_some_iff.mp e
  obtain ⟨x1, e3, e4⟩ := Option.bind_eq_some_iff.mp e2
  subst e3
  obtain ⟨y1, h1, e5, e6⟩ := bind_pair e4
  obtain ⟨v, ev, rv⟩ := E.at' _ _ e1
  refine ⟨v, ev, ot σ H τ m h y1 h1 _ R E e5 fun w H1 m1 g1 R1 r1 => ?_⟩
  cases rv with
  | int i =>
    cases r1 with
    | int j =>
      cases e6
      exact ⟨i, j, rfl, rfl, k _ _ _ g1 R1 ((E.mono g1).set (.int _) n)⟩
    | _ => cases e6
  | _ => cases e6
theorem js_par {i j : Nat} {kt k2 : Nat} {ga gb : En → MH → Option (D × MH)} (hc : X.calm = true) (hN : X.N.Nodup) (hi : X.N[i]? = some x) (hj : X.N[j]? = some y) (hij : i ≠ j)
    (hx : X.env.scope.names.lookup x = some .local) (hy : X.env.scope.names.lookup y = some .local) (ha : JE X a ga) (hb : JE X b gb) (hs : noStar a = true) (hs2 : noStar b = true)
    (hw : swappedStores [.Tuple [.Name x px, .Name y py] kt pt] (.Tuple [a, b] k2 pt2) X.env = pure (some [x, y])) :
    JS X (.Assign [.Tuple [.Name x px, .Name y py] kt pt] (.Tuple [a, b] k2 pt2) pos) fun τ h => (ga τ h).bind fun (u, h1) => (gb τ h1).map fun (w, h2) => (.nx, (τ.set i (some u)).set j (some w), h2) := by
  obtain ⟨ta, pa, oa⟩ := ha
  obtain ⟨tb, pb, ob⟩ := hb
  refine ⟨_, ps_par hc hN hi hj hij hx hy (pa_cons pa (pa_cons pb pa_nil (starEach_plain hs2)) (starEach_plain hs)) hw (by rfl), ?_⟩
  intro D σ H τ m h fl τ' h' R E e k
  obtain ⟨u, h1, e1, e2⟩ := bind_pair e
  obtain ⟨w, h2, e3, e4⟩ := map_pair e2
  cases e4
  refine oa σ H τ m h u h1 _ R E e1 fun v1 H1 m1 g1 R1 r1 => ?_
  refine ob σ H1 τ m1 h1 w _ _ R1 (E.mono g1) e3 fun v2 H2 m2 g2 R2 r2 => ?_
  exact ⟨v1, v2, rfl, k _ _ _ (g1.trans g2) R2 ((((E.mono g1).mono g2).set (r1.mono g2) i).set r2 j)⟩
/-- the loop's end -/
theorem js_while {gc : En → MH → Option (Bool × MH)} {gb : En → MH → SR} (fu : En → MH → Nat) (hx : X.xe = fun _ _ => False) (hc : JT X c gc) (hb : JSs X sts gb) : JS X (.While c sts [] pos) fun τ h => whlL gc gb (fu τ h) τ h := by
  obtain ⟨tc, pc, oc⟩ := hc
  obtain ⟨tb, pb, ob⟩ := hb
  refine ⟨_, ps_while (by rw [hx]; exact PassesOwn.never) pc pb, ?_⟩
  intro D σ H τ m h fl τ' h' R E e k
  refine ⟨fun n σ1 H1 => ∃ τ1 m1 h1, Grow H m H1 m1 ∧ HRel X.K H1 m1 h1 ∧ ERel X.K H1 m1 τ1 σ1 ∧ whlL gc gb n τ1 h1 = some (fl, τ', h'), ⟨_, τ, m, h, .refl, R, E, e⟩, ?_⟩
  rintro n σ1 H1 ⟨τ1, m1, h1, g1, R1, E1, run⟩
  cases n with
  | zero => cases run
  | succ n =>
    simp only [whlL] at run
    obtain ⟨t, h2, e1, run⟩ := bind_pair run
    refine oc σ1 H1 τ1 m1 h1 t h2 _ R1 E1 e1 fun H2 m2 g2 R2 => ?_
    have g12 := g1.trans g2
    cases t with
    | false =>
      cases run
      exact iteF (k _ _ _ g12 R2 (E1.mono g2))
    | true =>
      refine iteT ⟨fun σ3 H3 => ∃ τ3 m3 h3, Grow H m H3 m3 ∧ HRel X.K H3 m3 h3 ∧ ERel X.K H3 m3 τ3 σ3 ∧ whlL gc gb n τ3 h3 = some (fl, τ', h'), fun σ3 H3 w => ⟨n, Nat.lt_succ_self n, w⟩, ?_⟩
      obtain ⟨f2, τ3, h3, e2, run⟩ := bind3 run
      refine ob _ σ1 H2 τ1 m2 h2 f2 τ3 h3 R2 (E1.mono g2) e2 ?_
      cases f2 with
      | nx => exact fun σ3 H3 m3 g3 R3 E3 => ⟨τ3, m3, h3, g12.trans g3, R3, E3, run⟩
      | ct => exact fun σ3 H3 m3 g3 R3 E3 => ⟨τ3, m3, h3, g12.trans g3, R3, E3, run⟩
      | bk => cases run; exact k.grow g12
      | rt d => cases run; exact k.grow g12
theorem js_for {sl : List Nat} {gi : En → MH → Option (Src × MH)} {gt : D → En → MH → Option (En × MH)} {gb : En → MH → SR} (hx : X.xe = fun _ _ => False) (hc : X.calm = true) (hi : JI X tg iter gi) (ht : JG X tg sl gt) (hb : JSs X sts gb)
    (hs : ∀ x, foldedSetIterable iter X.env x = pure x) :
    JS X (.For tg iter sts [] pos) fun τ h => (gi τ h).bind fun (src, h1) => forL src (fun x σ h => (gt x σ h).bind fun (σ1, h2) => gb σ1 h2) (srcLen h1 src + 1) 0 τ h1 := by
  obtain ⟨wi, pw, ow⟩ := hi
  obtain ⟨tt, pt, ot⟩ := ht
  obtain ⟨tb, pb, ob⟩ := hb
  refine ⟨_, ps_for (by rw [hx]; exact PassesOwn.never) hc pw pt pb hs, ?_⟩
  intro D σ H τ m h fl τ' h' R E e k
  obtain ⟨src, h0, e0, e⟩ := bind_pair e
  refine ow σ H τ m h src h0 _ R E e0 fun J H1 m1 g1 R1 J1 => ?_
  refine ⟨fun i n σ2 H2 => ∃ τ2 m2 h2, Grow H1 m1 H2 m2 ∧ HRel X.K H2 m2 h2 ∧ ERel X.K H2 m2 τ2 σ2 ∧ forL src (fun x σ h => (gt x σ h).bind fun (σ1, h2) => gb σ1 h2) n i τ2 h2 = some (fl, τ', h'), ⟨_, τ, m1, h0, .refl, R1, E.mono g1, e⟩, ?_⟩
  rintro i n σ2 H2 ⟨τ2, m2, h2, g2, R2, E2, run⟩
  cases n with
  | zero => cases run
  | succ n =>
    simp only [forL] at run
    obtain ⟨o, s1, run⟩ := Option.bind_eq_some_iff.mp run
    cases o with
    | none =>
      cases run
      exact .inl ⟨J1.stop H2 m2 _ i g2 R2 s1, k _ _ _ (g1.trans g2) R2 E2⟩
    | some x =>
      obtain ⟨jgo, jy⟩ := J1.go H2 m2 h2 i x g2 R2 s1
      refine .inr ⟨jgo, fun σ3 H3 => ∃ τ3 m3 h3, Grow H1 m1 H3 m3 ∧ HRel X.K H3 m3 h3 ∧ ERel X.K H3 m3 τ3 σ3 ∧ forL src (fun x σ h => (gt x σ h).bind fun (σ1, h2) => gb σ1 h2) n (i + 1) τ3 h3 = some (fl, τ', h'), fun σ3 H3 w => ⟨n, Nat.lt_succ_self n, w⟩, fun v H3 y => ?_⟩
      obtain ⟨g3, R3, rx⟩ := jy v H3 y
      obtain ⟨f2, τ5, h5, e2, run⟩ := bind3 run
      obtain ⟨τ4, h4, e3, e4⟩ := bind_pair e2
      refine ot v x σ2 H3 τ2 m2 h2 τ4 h4 _ R3 (E2.mono g3) rx e3 fun σ4 H4 m4 g4 R4 E4 _ _ => ?_
      have g24 := (g2.trans g3).trans g4
      refine ob _ σ4 H4 τ4 m4 h4 f2 τ5 h5 R4 E4 e4 ?_
      cases f2 with
      | nx => exact fun σ5 H5 m5 g5 R5 E5 => ⟨τ5, m5, h5, g24.trans g5, R5, E5, run⟩
      | ct => exact fun σ5 H5 m5 g5 R5 E5 => ⟨τ5, m5, h5, g24.trans g5, R5, E5, run⟩
      | bk => cases run; exact k.grow (g1.trans g24)
      | rt d => cases run; exact k.grow (g1.trans g24)
theorem js_setLc {n : Nat} {elt : Expr} {ifs : List Expr} {scope : Scope} {own : List (Str × Nat)} {spos : Pos}
    {gi : En → MH → Option (Src × MH)} {gt : D → En → MH → Option (En × MH)} {gs : En → MH → Option (Bool × MH)} {ge : En → MH → Option (D × MH)}
    (hc : X.calm = true) (hN : X.N.Nodup) (hy : X.N[n]? = some y) (hyl : X.env.scope.names.lookup y = some .local) (hk : X.env.scope.kind = .function) (hl : (py.line == pos.line) = true)
    (hn : (scope.names.any fun (n, k) => n == y && (k == .local || k == .cell)) = false) (hi : JI X tg iter gi) (ok : BlkOk X.N X.env.scope scope own)
    (hg : ∀ (s : Shared) (H : Hp) (C : Addr) (cl : List (Str × Addr)) (fp : List Addr), JG (X.blk s H scope (compEnvC scope cl C X.env) fp) tg (own.map (·.2)) gt)
    (ht : ∀ (s : Shared) (H : Hp) (C : Addr) (cl : List (Str × Addr)) (fp : List Addr), JTs (X.blk s H scope (compEnvC scope cl C X.env) fp) ifs gs)
    (he : ∀ (s : Shared) (H : Hp) (C : Addr) (cl : List (Str × Addr)) (fp : List Addr), JE (X.blk s H scope (compEnvC scope cl C X.env) fp) elt ge) (hs : ∀ x, foldedSetIterable iter X.env x = pure x) :
    JS X (.Assign [.Name y py] (.ListComp elt [⟨tg, iter, ifs, 0⟩] scope pos) spos) fun τ h => (lcMean (own.map (·.2)) gi gt gs ge τ h).bind fun (x, h1) => some (.nx, τ.set n (some x), h1) := by
  obtain ⟨wi, pw, ow⟩ := hi
  refine ⟨_, ps_setLc (g := canG X.K _ gt) (tt := canT X.K gs) (te := canE X.K ge) hc hN hy hyl (sw_true hk hyl hl hn) pw ok (fun s H C cl fp => (hg s H C cl fp).can) (fun s H C cl fp => (ht s H C cl fp).can) (fun s H C cl fp => (he s H C cl fp).can) hs, ?_⟩
  intro D σ H τ m h fl τ' h' R E e k
  obtain ⟨d, h1, e1, e2⟩ := bind_pair e
  cases e2
  exact lc_ok ow σ H τ m h d _ _ R E e1 fun v H1 m1 g1 R1 r1 => k _ _ _ g1 R1 ((E.mono g1).set r1 n)
end
end Fq

set_option maxHeartbeats 4000000
/-! Fq: does the small text fit the given text? -/
namespace Fq
open PySem PySem.Spec PyProof.Rows L2

structure Cc where
  cons : List Str
  fns : List Str
  pk : Nat → Nat → Option (Nat × List Str)
  prm : Nat → List Str

def visB (sc : Scope) (x : Str) : Bool := match sc.names.lookup x with
  | some .local => true
  | some .cell => true
  | some .free => true
  | _ => false
def locB (sc : Scope) (b : Bool) (x : Str) : Bool := match sc.names.lookup x with
  | some .local => true
  | some .cell => b
  | _ => false
def onlyB (sc : Scope) (x : Str) : Bool := match sc.names.lookup x with
  | some .local => true
  | _ => false
def glB (sc : Scope) (x : Str) : Bool := match sc.names.lookup x with
  | some .globalImplicit => true
  | _ => false
def okN (x : Str) : Bool := !(x == ("__debug__" : Str)) && !(x == ("__classdict__" : Str))
def atB (N : List Str) (i : Nat) (x : Str) : Bool := match N[i]? with
  | some y => decide (y = x)
  | none => false
def opB (o : BO) (op : Operator) : Bool := match o, op with
  | .add, .Add => true
  | .sub, .Sub => true
  | .mul, .Mult => true
  | .fdiv, .FloorDiv => true
  | .mod, .Mod => true
  | .pow, .Pow => true
  | _, _ => false
def cmpB (o : CO) (op : CmpOp) : Bool := match o, op with
  | .lt, .Lt => true
  | .le, .LtE => true
  | .gt, .Gt => true
  | .ge, .GtE => true
  | .eq, .Eq => true
  | .ne, .NotEq => true
  | .isin, .In => true
  | .notin, .NotIn => true
  | _, _ => false
def noSet : Expr → Bool
  | .Set _ _ _ => false
  | _ => true
def noSlice : Expr → Bool
  | .Slice _ _ _ _ => false
  | _ => true
def noCall : Expr → Bool
  | .Call _ _ _ _ => false
  | _ => true
def isIfe : Ex → Bool
  | .ife _ _ _ => true
  | _ => false
def biN : BI → Str
  | .len => "len"
  | .abs => "abs"
  | .max2 => "max"
  | .min2 => "min"
  | .maxl => "max"
  | .int => "int"
  | .list => "list"
  | .tuple => "tuple"
  | .all => "all"
  | .any => "any"
  | .repr => "repr"
def tyB (T : String) (y : Str) : Bool :=
  (T == "int" && decide (y = "int")) || (T == "bool" && decide (y = "bool")) || (T == "str" && decide (y = "str")) || (T == "tuple" && decide (y = "tuple")) || (T == "list" && decide (y = "list"))
def ownOf (N : List Str) (sl : List Nat) : List (Str × Nat) := sl.map fun i => (N.getD i "", i)
def nmTg : Tg → Bool
  | .nm _ => true
  | .tp _ => true
  | .sub _ _ => false
def isTup : Expr → Bool
  | .Tuple _ _ _ => true
  | _ => false
def okArgs (kws : List Keyword) (ks : List Str) : Bool := decide (kws.map (·.arg) = ks.map some)
def kwVals (kws : List Keyword) : List Expr := kws.map (·.value)

/-- the texts that stand as a display's keys -/
def okKs : List Str → List (Option Expr) → Bool
  | [], l => l.isEmpty
  | s :: r, l => match l with
    | some (.Constant (.str t) _ _) :: l => decide (s = t) && okKs r l
    | _ => false
mutual
def okE (T : Cc) (N : List Str) : Scope → Bool → Ex → Expr → Bool
  | sc, _, .var i, e => match e with
    | .Name x _ => atB N i x && visB sc x && okN x
    | _ => false
  | _, _, .int i, e => match e with
    | .Constant (.int j) _ _ => decide (i = j)
    | _ => false
  | _, _, .str s, e => match e with
    | .Constant (.str t) _ _ => decide (s = t)
    | _ => false
  | _, _, .bl s, e => match e with
    | .Constant (.bool t) _ _ => decide (s = t)
    | _ => false
  | _, _, .non, e => match e with
    | .Constant .none _ _ => true
    | _ => false
  | sc, _, .glob k, e => match e with
    | .Name x _ => atB T.cons k x && glB sc x && okN x
    | _ => false
  | sc, b, .tup es, e => match e with
    | .Tuple xs _ _ => okEs T N sc b es xs
    | _ => false
  | sc, b, .lst es, e => match e with
    | .List xs _ => okEs T N sc b es xs
    | _ => false
  | sc, b, .bin o x y, e => match e with
    | .BinOp u op v _ => opB o op && okE T N sc b x u && okE T N sc b y v
    | _ => false
  | sc, b, .neg x, e => match e with
    | .UnaryOp .USub u _ => okE T N sc b x u
    | _ => false
  | sc, b, .cmp o x y, e => match e with
    | .Compare u [op] [v] _ => cmpB o op && noSet v && okE T N sc b x u && okE T N sc b y v
    | _ => false
  | sc, b, .isN x, e => match e with
    | .Compare u [.Is] [.Constant .none _ _] _ => okE T N sc b x u
    | _ => false
  | sc, b, .notN x, e => match e with
    | .Compare u [.IsNot] [.Constant .none _ _] _ => okE T N sc b x u
    | _ => false
  | sc, b, .andE es, e => match e with
    | .BoolOp .And xs _ => okEs T N sc b es xs && es.all (fun e => !isIfe e) && !es.isEmpty
    | _ => false
  | sc, b, .orE es, e => match e with
    | .BoolOp .Or xs _ => okEs T N sc b es xs && es.all (fun e => !isIfe e) && !es.isEmpty
    | _ => false
  | sc, b, .notE x, e => match e with
    | .UnaryOp .Not u _ => okE T N sc b x u && !isIfe x
    | _ => false
  | sc, b, .ife c x y, e => match e with
    | .IfExp u v w _ => okE T N sc b c u && !isIfe c && okE T N sc b x v && okE T N sc b y w
    | _ => false
  | sc, b, .idx x y, e => match e with
    | .Subscript u v _ => noSlice v && okE T N sc b x u && okE T N sc b y v
    | _ => false
  | sc, b, .slc x lo hi, e => match e with
    | .Subscript u (.Slice l h none _) _ => okE T N sc b x u &&
        (match l with
          | some l => !isAbs lo && okE T N sc b lo l
          | none => isAbs lo) &&
        (match h with
          | some h => !isAbs hi && okE T N sc b hi h
          | none => isAbs hi)
    | _ => false
  | _, _, .absent, _ => false
  | sc, b, .call k es, e => match e with
    | .Call (.Name x _) xs [] _ => atB T.fns k x && glB sc x && okN x && okEs T N sc b es xs
    | _ => false
  | sc, b, .callP k p es ks, e => match e with
    | .Call (.Name x _) xs kws _ => (match T.pk k p with
      | some (n, nms) => atB T.fns k x && glB sc x && okN x && okEs T N sc b es xs && decide (es.length = n) && (!es.isEmpty || !nms.isEmpty) && okEs T N sc b ks (kwVals kws) && okArgs kws nms
      | none => false)
    | _ => false
  | sc, b, .bi f es, e => match e with
    | .Call (.Name x _) xs [] _ => decide (x = biN f) && glB sc x && okEs T N sc b es xs && !es.isEmpty
    | _ => false
  | sc, b, .isi x t, e => match e with
    | .Call (.Name f _) [u, .Name y _] [] _ => decide (f = "isinstance") && glB sc f && glB sc y && tyB t y && okE T N sc b x u && noStar u
    | _ => false
  | sc, b, .app o x, e => match e with
    | .Call (.Attribute u f apos) [v] [] cpos => decide (f = "append") && noCall u && (apos.endLine == cpos.line) && okE T N sc b o u && okE T N sc b x v && noStar v
    | _ => false
  | sc, b, .dsp ks es, e => match e with
    | .Dict keys values _ => okKs ks keys && okEs T N sc b es values && !ks.isEmpty && decide (ks.length ≤ 15) && decide ks.Nodup && decide (es.length = ks.length)
    | _ => false
  | sc, b, .dget o x y, e => match e with
    | .Call (.Attribute u f apos) [v, w] [] cpos => decide (f = "get") && noCall u && (apos.endLine == cpos.line) && okE T N sc b o u && okE T N sc b x v && noStar v && okE T N sc b y w && noStar w
    | _ => false
  | sc, b, .lc elt tg it ifs, e => match e with
    | .ListComp u [⟨t, i, fs, 0⟩] scope _ => blkC N sc scope (ownOf N (tgS tg)) && noSet i && okI T N sc b it t i && nmTg tg && tgPlain t && okT T N (relS scope sc) false tg t &&
        (match fs with
          | [] => ifs.isEmpty
          | [_] => okEs T N (relS scope sc) false ifs fs && ifs.all (fun e => !isIfe e)
          | _ => false) && okE T N (relS scope sc) false elt u
    | _ => false
  | _, _, .never, _ => true
def okEs (T : Cc) (N : List Str) : Scope → Bool → List Ex → List Expr → Bool
  | _, _, [], xs => xs.isEmpty
  | sc, b, e :: es, xs => match xs with
    | [] => false
    | x :: xs => okE T N sc b e x && noStar x && okEs T N sc b es xs
def okT (T : Cc) (N : List Str) : Scope → Bool → Tg → Expr → Bool
  | sc, b, .nm i, e => match e with
    | .Name x _ => atB N i x && locB sc b x
    | _ => false
  | sc, b, .tp ts, e => match e with
    | .Tuple xs _ _ => okTs T N sc b ts xs
    | _ => false
  | sc, b, .sub o i, e => match e with
    | .Subscript u v _ => noSlice v && okE T N sc b o u && okE T N sc b i v
    | _ => false
def okTs (T : Cc) (N : List Str) : Scope → Bool → List Tg → List Expr → Bool
  | _, _, [], xs => xs.isEmpty
  | sc, b, t :: ts, xs => match xs with
    | [] => false
    | x :: xs => okT T N sc b t x && tgPlain x && okTs T N sc b ts xs
def okI (T : Cc) (N : List Str) : Scope → Bool → It → Expr → Expr → Bool
  | sc, b, .ex e, _, i => okE T N sc b e i
  | sc, b, .rng1 a, _, i => match i with
    | .Call (.Name f _) [x] [] _ => decide (f = "range") && glB sc f && okE T N sc b a x && noStar x
    | _ => false
  | sc, b, .rng2 a c, _, i => match i with
    | .Call (.Name f _) [x, y] [] _ => decide (f = "range") && glB sc f && okE T N sc b a x && noStar x && okE T N sc b c y && noStar y
    | _ => false
  | sc, b, .enum a, t, i => match i with
    | .Call (.Name f _) [x] [] _ => decide (f = "enumerate") && glB sc f && isTup t && okE T N sc b a x && noStar x
    | _ => false
  | sc, b, .zip a c, t, i => match i with
    | .Call (.Name f _) [x, y] [] _ => decide (f = "zip") && glB sc f && isTup t && okE T N sc b a x && noStar x && okE T N sc b c y && noStar y
    | _ => false
end
/-- two displays of which a part is no plain local name -/
def cellT (sc : Scope) : Expr → Expr → Bool
  | .Tuple ts _ _, .Tuple _ _ _ => !decide (ts.length = 2 ∨ ts.length = 3) || ts.any fun t => match t with
    | .Name y _ => !onlyB sc y
    | _ => true
  | _, _ => false
def cellC (sc : Scope) : Expr → Bool
  | .Name y _ => !onlyB sc y
  | _ => false
def tupNoStar : Expr → Bool
  | .Tuple vs _ _ => vs.all noStar
  | _ => true
mutual
def okS (T : Cc) (N : List Str) (sc : Scope) : St → Stmt → Bool
  | .asg t e, s => match s with
    | .Assign [tg] x spos => (match t, e with
      | .nm i, .lc elt ctg it ifs => (match tg, x with
        | .Name y py, .ListComp u [⟨ct, ci, fs, 0⟩] scope pos => (atB N i y && onlyB sc y && (py.line == pos.line) && !(scope.names.any fun (n, k) => n == y && (k == .local || k == .cell)) &&
            okE T N sc true (.lc elt ctg it ifs) (.ListComp u [⟨ct, ci, fs, 0⟩] scope pos)) ||
            (okT T N sc true (.nm i) (.Name y py) && cellC sc (.Name y py) && okE T N sc true (.lc elt ctg it ifs) (.ListComp u [⟨ct, ci, fs, 0⟩] scope pos))
        | _, _ => false)
      | _, _ => okT T N sc true t tg && okE T N sc true e x && noComp x && (noDisp tg x || cellT sc tg x) && tupNoStar x && tgPlain tg)
    | _ => false
  | .par i j a b, s => match s with
    | .Assign [.Tuple [.Name x px, .Name y py] _ _] (.Tuple [u, v] _ _) _ => atB N i x && atB N j y && !(i == j) && onlyB sc x && onlyB sc y && okE T N sc true a u && okE T N sc true b v && noStar u && noStar v &&
        (px.line == py.line) && !(x == y) && !([u, v].all (foldedForSure 8)) && !([u, v].all (constantsAlone 8))
    | _ => false
  | .aug i o e, s => match s with
    | .AugAssign (.Name x _) op v _ => atB N i x && locB sc true x && okE T N sc true e v && (match o, op with
      | .add, .Add => true
      | .sub, .Sub => true
      | _, _ => false)
    | _ => false
  | .expr e, s => match s with
    | .Expr x _ => okE T N sc true e x && noComp x
    | _ => false
  | .ret e, s => match s with
    | .Return (some x) _ => okE T N sc true e x
    | _ => false
  | .retN, s => match s with
    | .Return none _ => true
    | _ => false
  | .ift c a b, s => match s with
    | .If x y z _ => okE T N sc true c x && !isIfe c && okSs T N sc a y && okSs T N sc b z
    | _ => false
  | .whl c b _, s => match s with
    | .While x y [] _ => okE T N sc true c x && !isIfe c && okSs T N sc b y
    | _ => false
  | .for t it b, s => match s with
    | .For tg i y [] _ => okI T N sc true it tg i && noSet i && okT T N sc true t tg && okSs T N sc b y
    | _ => false
  | .pass, s => match s with
    | .Pass _ => true
    | _ => false
  | .brk, s => match s with
    | .Break _ => true
    | _ => false
  | .cont, s => match s with
    | .Continue _ => true
    | _ => false
  | .never, _ => true
def okSs (T : Cc) (N : List Str) (sc : Scope) : List St → List Stmt → Bool
  | [], ss => ss.isEmpty
  | s :: r, ss => match ss with
    | [] => false
    | x :: xs => okS T N sc s x && okSs T N sc r xs
end
end Fq

set_option maxHeartbeats 8000000
/-! Fq: what fits keeps its plain meaning. -/
namespace Fq
open PySem PySem.Spec PyProof.Rows L2

theorem atB_eq {N : List Str} {i : Nat} {x : Str} (h : atB N i x = true) : N[i]? = some x := by
  unfold atB at h
  split at h
  · rename_i y e
    rw [e, of_decide_eq_true h]
  · cases h
theorem vis_of {sc : Scope} {x : Str} (h : visB sc x = true) : Vis sc x := by
  unfold visB at h
  split at h
  · rename_i e; exact .inl e
  · rename_i e; exact .inr (.inl e)
  · rename_i e; exact .inr (.inr e)
  · cases h
theorem loc_of {sc : Scope} {b : Bool} {x : Str} (h : locB sc b x = true) : Loc sc x ∧ (b = true ∨ sc.names.lookup x = some .local) := by
  unfold locB at h
  split at h
  · rename_i e; exact ⟨.inl e, .inr e⟩
  · rename_i e; exact ⟨.inr e, .inl h⟩
  · cases h
theorem only_of {sc : Scope} {x : Str} (h : onlyB sc x = true) : sc.names.lookup x = some .local := by
  unfold onlyB at h
  split at h
  · rename_i e; exact e
  · cases h
theorem gl_of {sc : Scope} {x : Str} (h : glB sc x = true) : sc.names.lookup x = some .globalImplicit := by
  unfold glB at h
  split at h
  · rename_i e; exact e
  · cases h
theorem okN_of {x : Str} (h : okN x = true) : (x == ("__debug__" : Str)) = false ∧ (x == ("__classdict__" : Str)) = false := by
  unfold okN at h
  rw [Bool.and_eq_true] at h
  exact ⟨by simpa using h.1, by simpa using h.2⟩
theorem opB_eq {o : BO} {op : Operator} (h : opB o op = true) : op = opOf o := by
  unfold opB at h
  split at h <;> first | rfl | cases h
theorem cmpB_eq {o : CO} {op : CmpOp} (h : cmpB o op = true) : op = cmpOf o := by
  unfold cmpB at h
  split at h <;> first | rfl | cases h
theorem noSet_of {e : Expr} (h : noSet e = true) : ∀ es k p, e ≠ .Set es k p := by
  intro es k p z
  subst z
  cases h
theorem noSlice_of {e : Expr} (h : noSlice e = true) : ∀ l u s q, e ≠ .Slice l u s q := by
  intro es k p q z
  subst z
  cases h
theorem noCall_of {e : Expr} (h : noCall e = true) : ∀ a b c d, e ≠ .Call a b c d := by
  intro es k p q z
  subst z
  cases h
theorem folded_of {e : Expr} {env : Env} (h : noSet e = true) : ∀ x, foldedSetIterable e env x = pure x := by
  intro x
  cases e <;> first | rfl | cases h

def bltNames : List Str := ["len", "abs", "max", "min", "int", "list", "tuple", "all", "any", "isinstance", "range", "enumerate", "zip", "bool", "str", "repr"]

structure CtxG (T : Cc) (Γ : Gm) (X : Cx) (sc : Scope) (N : List Str) (b : Bool) : Prop where
  scE : X.env.scope = sc
  nm : X.N = N
  nd : N.Nodup
  kd : sc.kind = .function
  calm : X.calm = true
  fnb : ∀ x, b = true → X.fn x = true
  xe : X.xe = fun _ _ => False
  un : X.A.units + 65 < cLine
  gd : X.A.guards = some []
  con : ∀ k x, T.cons[k]? = some x → ∃ u v, X.mg x = some u ∧ RelV v u ∧ ∀ H m, Rep X.K H m (Γ.con k) v
  blt : ∀ x, x ∈ bltNames → X.mg x = none
  fns : ∀ k x, T.fns[k]? = some x → FnHas X.prog X.w X.K X.mg X.base X.A x (Γ.fn k)
  pats : ∀ k p n ks x, T.pk k p = some (n, ks) → T.fns[k]? = some x → FnPat X.prog X.w X.K X.mg X.base X.A x n ks (Γ.fn k) (Γ.pat k p)
theorem CtxG.blk {T : Cc} {Γ : Gm} {X : Cx} {sc scope : Scope} {N : List Str} {b : Bool} (C : CtxG T Γ X sc N b) (hk : scope.kind = .function) (s : Shared) (H : Hp) (cl : List (Str × Addr)) (c : Addr) (fp : List Addr) :
    CtxG T Γ (X.blk s H scope (compEnvC scope cl c X.env) fp) (relS scope sc) N false :=
  ⟨by rw [← C.scE]; rfl, C.nm, C.nd, hk, C.calm, (fun _ h => nomatch h), rfl, C.un, C.gd, C.con, C.blt, C.fns, C.pats⟩
section
variable {T : Cc} {Γ : Gm} {X : Cx} {sc : Scope} {N : List Str} {b : Bool} {x : Str}
theorem CtxG.gl (C : CtxG T Γ X sc N b) (h : glB sc x = true) : Gl X x := by
  have := gl_of h
  rw [← C.scE] at this
  exact this
theorem bi_ok (C : CtxG T Γ X sc N b) (f : BI) {e : Expr} {es : List Expr} {p pos : Pos} {ga : En → MH → Option (List D × MH)} (hg : glB sc (biN f) = true) (ha : JA X (e :: es) ga) (hs : (e :: es).all noStar = true) :
    JE X (.Call (.Name (biN f) p) (e :: es) [] pos) fun τ h => (ga τ h).bind fun (xs, h1) => biD f xs h1 := by
  have hm : X.mg (biN f) = none := C.blt _ (by cases f <;> decide +kernel)
  have g := C.gl hg
  cases f with
  | len => exact je_callB jb_len g hm PySem.boot_len ha hs (by decide) (by decide)
  | abs => exact je_callB jb_abs g hm PyProof.Rows.boot_abs ha hs (by decide) (by decide)
  | max2 => exact je_callB (jb_max2 C.calm) g hm PyProof.Rows.boot_max ha hs (by decide) (by decide)
  | min2 => exact je_callB (jb_min2 C.calm) g hm PyProof.Rows.boot_min ha hs (by decide) (by decide)
  | maxl => exact je_callB (jb_maxl C.calm) g hm PyProof.Rows.boot_max ha hs (by decide) (by decide)
  | int => exact je_callT jb_int g hm PyProof.Rows.boot_int ha hs (by decide) (by decide)
  | list => exact je_callT jb_list g hm PyProof.Rows.boot_list ha hs (by decide) (by decide)
  | tuple => exact je_callT jb_tuple g hm PyProof.Rows.boot_tuple ha hs (by decide) (by decide)
  | all => exact je_callB (jb_all C.calm) g hm PyProof.Rows.boot_all ha hs (by decide) (by decide)
  | any => exact je_callB (jb_any C.calm) g hm PyProof.Rows.boot_any ha hs (by decide) (by decide)
  | repr => exact je_callB (jb_repr C.gd C.un) g hm PyProof.Rows.boot_repr ha hs (by decide) (by decide)
theorem tyB_of {t : String} {y : Str} (h : tyB t y = true) : bootBuiltins y = some (.type t) ∧ y ∈ bltNames ∧ y ≠ "__name__" ∧ (y == ("__debug__" : Str)) = false := by
  unfold tyB at h
  simp only [Bool.or_eq_true, Bool.and_eq_true, decide_eq_true_eq, beq_iff_eq] at h
  rcases h with (((⟨rfl, rfl⟩ | ⟨rfl, rfl⟩) | ⟨rfl, rfl⟩) | ⟨rfl, rfl⟩) | ⟨rfl, rfl⟩
  · exact ⟨PyProof.Rows.boot_int, by decide +kernel, by decide, by decide⟩
  · exact ⟨PyProof.Rows.boot_bool, by decide +kernel, by decide, by decide⟩
  · exact ⟨PyProof.Rows.boot_str, by decide +kernel, by decide, by decide⟩
  · exact ⟨PyProof.Rows.boot_tuple, by decide +kernel, by decide, by decide⟩
  · exact ⟨PyProof.Rows.boot_list, by decide +kernel, by decide, by decide⟩
theorem jt_never {e : Expr} {g : En → MH → Option (Bool × MH)} (hg : ∀ τ h, g τ h = none) : JT X e g :=
  ⟨fun _ _ _ => False, ⟨fun _ _ _ _ _ _ h => h.elim⟩, fun _ _ τ _ h _ _ _ _ _ e _ => by rw [hg] at e; cases e⟩
theorem evs_len : ∀ {es : List Ex} {τ : En} {h h' : MH} {xs : List D}, evs Γ es τ h = some (xs, h') → xs.length = es.length
  | [], _, _, _, _, e => by simp only [evs] at e; cases e; rfl
  | e :: es, τ, h, h', xs, q => by
    simp only [evs] at q
    obtain ⟨x, h1, e1, e2⟩ := bind_pair q
    obtain ⟨ys, h2, e3, e4⟩ := map_pair e2
    cases e4
    simp [evs_len e3]
theorem asgTs_len : ∀ {ts : List Tg} {ds : List D} {τ : En} {h : MH} {r : En × MH}, asgTs Γ ts ds τ h = some r → ds.length = ts.length
  | [], [], _, _, _, _ => rfl
  | [], _ :: _, _, _, _, e => by simp [asgTs] at e
  | _ :: _, [], _, _, _, e => by simp [asgTs] at e
  | t :: ts, d :: ds, τ, h, r, e => by
    simp only [asgTs] at e
    obtain ⟨x, h1, e1, e2⟩ := bind_pair e
    simp [asgTs_len e2]
theorem okEs_len : ∀ {es : List Ex} {xs : List Expr}, okEs T N sc b es xs = true → xs.length = es.length ∧ xs.all noStar = true
  | [], [], _ => ⟨rfl, rfl⟩
  | [], _ :: _, h => by simp [okEs] at h
  | _ :: _, [], h => by simp [okEs] at h
  | e :: es, x :: xs, h => by
    simp only [okEs, Bool.and_eq_true] at h
    obtain ⟨h1, h2⟩ := okEs_len h.2
    exact ⟨by simp [h1], by simp [h.1.2, h2]⟩
theorem okTs_len : ∀ {es : List Tg} {xs : List Expr}, okTs T N sc b es xs = true → xs.length = es.length ∧ xs.all tgPlain = true
  | [], [], _ => ⟨rfl, rfl⟩
  | [], _ :: _, h => by simp [okTs] at h
  | _ :: _, [], h => by simp [okTs] at h
  | e :: es, x :: xs, h => by
    simp only [okTs, Bool.and_eq_true] at h
    obtain ⟨h1, h2⟩ := okTs_len h.2
    exact ⟨by simp [h1], by simp [h.1.2, h2]⟩
theorem kwVals_JK : ∀ {kws : List Keyword} {es : List Ex}, (∀ {es : List Ex} {xs : List Expr}, es.length = xs.length → True) → True := fun _ => trivial
theorem own_snd (N : List Str) (sl : List Nat) : (ownOf N sl).map (·.2) = sl := by
  unfold ownOf
  rw [List.map_map]
  exact (List.map_congr_left fun _ _ => rfl).trans (List.map_id sl)
end
theorem okKs_len : ∀ {ks : List Str} {l : List (Option Expr)}, okKs ks l = true → l.length = ks.length ∧ l.all (·.isSome) = true ∧ (ks ≠ [] → l ≠ [])
  | [], [], _ => ⟨rfl, rfl, fun z => absurd rfl z⟩
  | [], _ :: _, h => by simp [okKs] at h
  | k :: ks, [], h => by simp [okKs] at h
  | k :: ks, x :: l, h => by
    simp only [okKs] at h
    split at h
    · rename_i e
      injection e with e1 e2
      subst e1
      subst e2
      simp only [Bool.and_eq_true] at h
      obtain ⟨h1, h2, _⟩ := okKs_len h.2
      exact ⟨by simp [h1], by simp [h2], fun _ z => by cases z⟩
    · cases h
/-- either: as a value and, but for a conditional expression, as a test -/
abbrev Both (X : Cx) (e : Expr) (m : Ex) (g : En → MH → Option (D × MH)) : Prop := JE X e g ∧ (isIfe m = false → JT X e fun τ h => getB (g τ h))
theorem both {X : Cx} {e : Expr} {m : Ex} {g : En → MH → Option (D × MH)} (h : JE X e g) (he : ∀ whole, isTrue e X.env whole = (do let v ← whole; standAt e.pos; holding [v] (truthy v))) : Both X e m g := ⟨h, fun _ => jt_val h he⟩

mutual
theorem soundE {T : Cc} {Γ : Gm} {N : List Str} : ∀ (m : Ex) {X : Cx} {sc : Scope} {b : Bool} {e : Expr}, CtxG T Γ X sc N b → okE T N sc b m e = true → Both X e m (ev Γ m)
  | .var i, X, sc, b, e, C, h => by
    simp only [okE] at h
    split at h
    · simp only [Bool.and_eq_true] at h
      have v := vis_of h.1.2
      rw [← C.scE] at v
      have a := atB_eq h.1.1
      rw [← C.nm] at a
      exact both (je_var a v (okN_of h.2).1 (okN_of h.2).2) (by intro _; rfl)
    · cases h
  | .int i, X, sc, b, e, C, h => by
    simp only [okE] at h
    split at h
    · obtain rfl := of_decide_eq_true h
      exact both (je_con pe_int fun _ _ => .int _) (by intro _; rfl)
    · cases h
  | .str s, X, sc, b, e, C, h => by
    simp only [okE] at h
    split at h
    · obtain rfl := of_decide_eq_true h
      exact both (je_con pe_str fun _ _ => .str _) (by intro _; rfl)
    · cases h
  | .bl s, X, sc, b, e, C, h => by
    simp only [okE] at h
    split at h
    · obtain rfl := of_decide_eq_true h
      exact both (je_con pe_bl fun _ _ => .bl _) (by intro _; rfl)
    · cases h
  | .non, X, sc, b, e, C, h => by
    simp only [okE] at h
    split at h
    · exact both (je_con pe_non fun _ _ => .non) (by intro _; rfl)
    · cases h
  | .glob k, X, sc, b, e, C, h => by
    simp only [okE] at h
    split at h
    · simp only [Bool.and_eq_true] at h
      obtain ⟨u, v, h1, h2, h3⟩ := C.con _ _ (atB_eq h.1.1)
      exact both (je_con (pe_glob (C.gl h.1.2) h1 h2 (okN_of h.2).1) h3) (by intro _; rfl)
    · cases h
  | .tup es, X, sc, b, e, C, h => by
    simp only [okE] at h
    split at h
    · exact both (je_tup (soundEs es C h)) (by intro _; rfl)
    · cases h
  | .lst es, X, sc, b, e, C, h => by
    simp only [okE] at h
    split at h
    · exact both (je_lst (soundEs es C h)) (by intro _; rfl)
    · cases h
  | .bin o x y, X, sc, b, e, C, h => by
    simp only [okE] at h
    split at h
    · simp only [Bool.and_eq_true] at h
      obtain rfl := opB_eq h.1.1
      exact both (je_bin (soundE x C h.1.2).1 (soundE y C h.2).1) (by intro _; rfl)
    · cases h
  | .neg x, X, sc, b, e, C, h => by
    simp only [okE] at h
    split at h
    · exact both (je_neg (soundE x C h).1) (by intro _; rfl)
    · cases h
  | .cmp o x y, X, sc, b, e, C, h => by
    simp only [okE] at h
    split at h
    · simp only [Bool.and_eq_true] at h
      obtain rfl := cmpB_eq h.1.1.1
      have a := (soundE x C h.1.2).1
      have c := (soundE y C h.2).1
      exact ⟨je_cmp C.un a c (noSet_of h.1.1.2), fun _ => jt_cmp C.un a c (noSet_of h.1.1.2)⟩
    · cases h
  | .isN x, X, sc, b, e, C, h => by
    simp only [okE] at h
    split at h
    · exact ⟨je_isN (soundE x C h).1, fun _ => jt_isN (soundE x C h).1⟩
    · cases h
  | .notN x, X, sc, b, e, C, h => by
    simp only [okE] at h
    split at h
    · exact ⟨je_notN (soundE x C h).1, fun _ => jt_notN (soundE x C h).1⟩
    · cases h
  | .andE es, X, sc, b, e, C, h => by
    simp only [okE] at h
    split at h
    · rename_i pos
      simp only [Bool.and_eq_true] at h
      have q := soundAnd (pos := pos) es C h.1.1 h.1.2 (by simpa using h.2)
      exact ⟨q.1, fun _ => jw_pt q.2⟩
    · cases h
  | .orE es, X, sc, b, e, C, h => by
    simp only [okE] at h
    split at h
    · rename_i pos
      simp only [Bool.and_eq_true] at h
      have q := soundOr (pos := pos) es C h.1.1 h.1.2 (by simpa using h.2)
      exact ⟨q.1, fun _ => jw_pt q.2⟩
    · cases h
  | .notE x, X, sc, b, e, C, h => by
    simp only [okE] at h
    split at h
    · simp only [Bool.and_eq_true] at h
      have q := soundE x C h.1
      exact ⟨je_not q.1, fun _ => jt_not (q.2 (by simpa using h.2))⟩
    · cases h
  | .ife c x y, X, sc, b, e, C, h => by
    simp only [okE] at h
    split at h
    · simp only [Bool.and_eq_true] at h
      have q := soundE c C h.1.1.1
      exact ⟨je_ife (q.2 (by simpa using h.1.1.2)) (soundE x C h.1.2).1 (soundE y C h.2).1, fun z => by cases z⟩
    · cases h
  | .idx x y, X, sc, b, e, C, h => by
    simp only [okE] at h
    split at h
    · simp only [Bool.and_eq_true] at h
      exact both (je_idx (by have := C.un; omega) (soundE x C h.1.2).1 (soundE y C h.2).1 (noSlice_of h.1.1)) (by intro _; rfl)
    · cases h
  | .slc x lo hi, X, sc, b, e, C, h => by
    simp only [okE] at h
    split at h
    · rename_i u l w p2 pos
      simp only [Bool.and_eq_true] at h
      have part : ∀ (o : Option Expr) (q : Ex), (∀ e, okE T N sc b q e = true → Both X e q (ev Γ q)) → (match o with
          | some l => !isAbs q && okE T N sc b q l
          | none => isAbs q) = true → JP X o fun τ h => partR q (ev Γ q τ h) h := by
        intro o q sq hq
        cases o with
        | none =>
          have hq : isAbs q = true := hq
          have e : (fun τ h => partR q (ev Γ q τ h) h) = fun _ h => some (none, h) := by
            funext τ h
            unfold partR
            rw [if_pos hq]
          rw [e]
          exact jp_none
        | some l =>
          simp only [Bool.and_eq_true] at hq
          have h1 : isAbs q = false := by simpa using hq.1
          have e : (fun τ h => partR q (ev Γ q τ h) h) = fun τ h => (ev Γ q τ h).bind fun (x, h1) => match x with
              | .int i => some (some i, h1)
              | _ => none := by
            funext τ h
            unfold partR
            exact if_neg (by rw [h1]; decide)
          rw [e]
          exact jp_some (sq l hq.2).1
      exact both (je_slc (soundE x C h.1.1).1 (part l lo (fun e q => soundE lo C q) h.1.2) (part w hi (fun e q => soundE hi C q) h.2)) (by intro _; rfl)
    · cases h
  | .absent, X, sc, b, e, C, h => by
    simp only [okE] at h
    cases h
  | .call k es, X, sc, b, e, C, h => by
    simp only [okE] at h
    split at h
    · rename_i x p xs pos
      simp only [Bool.and_eq_true] at h
      have ja := soundEs es C h.2
      have ln := okEs_len h.2
      cases xs with
      | nil =>
        cases es with
        | nil => exact both (je_call0 (C.fns _ _ (atB_eq h.1.1.1)) (C.gl h.1.1.2) (okN_of h.1.2).1) (by intro _; rfl)
        | cons _ _ => simp at ln
      | cons y ys => exact both (je_call (C.fns _ _ (atB_eq h.1.1.1)) (C.gl h.1.1.2) ja ln.2 (okN_of h.1.2).1) (by intro _; rfl)
    · cases h
  | .callP k p es ks, X, sc, b, e, C, h => by
    simp only [okE] at h
    split at h
    · rename_i x px xs kws pos
      split at h
      · rename_i n nms epk
        simp only [Bool.and_eq_true, decide_eq_true_eq] at h
        obtain ⟨⟨⟨⟨⟨⟨⟨h1, h2⟩, h3⟩, h4⟩, h5⟩, h6⟩, h7⟩, h8⟩ := h
        have ja := soundEs es C h4
        have ln := okEs_len h4
        have hk : kws.map (·.arg) = nms.map some := of_decide_eq_true h8
        have F := C.pats k p n nms x epk (atB_eq h1)
        have l1 : ∀ τ h xs h', evs Γ es τ h = some (xs, h') → xs.length = n := fun τ h xs h' q => (evs_len q).trans h5
        have lk := okEs_len h7
        have lk2 : ks.length = nms.length := by
          have := congrArg List.length hk
          simp at this
          have l := lk.1
          unfold kwVals at l
          simp at l
          omega
        cases xs with
        | nil =>
          cases es with
          | nil =>
            have hn : nms ≠ [] := by intro z; rw [z] at h6; simp at h6
            have jk := soundKw kws ks C h7
            have l2 : ∀ τ h xs h', evs Γ ks τ h = some (xs, h') → xs.length = nms.length := fun τ h xs h' q => (evs_len q).trans lk2
            have n0 : n = 0 := by rw [← h5]; rfl
            subst n0
            exact both (je_callK0 (p := px) (pos := pos) F hn (C.gl h2) jk l2 hk (okN_of h3).1) (by intro _; rfl)
          | cons _ _ => simp at ln
        | cons y ys =>
          by_cases hn : nms = []
          · subst hn
            have e1 : kws = [] := by simpa using hk
            subst e1
            have e2 : ks = [] := List.length_eq_zero_iff.mp (by simpa using lk2)
            subst e2
            have := je_callD (p := px) (pos := pos) F (C.gl h2) ja l1 ln.2 (okN_of h3).1
            refine both ?_ (by intro _; rfl)
            have e3 : (ev Γ (.callP k p es [])) = fun τ h => (evs Γ es τ h).bind fun (xs, h1) => Γ.fn k (Γ.pat k p xs) h1 := by
              funext τ h
              simp only [ev, evs, Option.bind_some, List.append_nil]
            rw [e3]
            exact this
          · have jk := soundKw kws ks C h7
            have l2 : ∀ τ h xs h', evs Γ ks τ h = some (xs, h') → xs.length = nms.length := fun τ h xs h' q => (evs_len q).trans lk2
            exact both (je_callK (p := px) (pos := pos) F hn (C.gl h2) ja jk l1 l2 ln.2 hk (okN_of h3).1) (by intro _; rfl)
      · cases h
    · cases h
  | .bi f es, X, sc, b, e, C, h => by
    simp only [okE] at h
    split at h
    · rename_i x p xs pos
      simp only [Bool.and_eq_true, decide_eq_true_eq] at h
      obtain ⟨⟨⟨rfl, h2⟩, h3⟩, h4⟩ := h
      have ja := soundEs es C h3
      have ln := okEs_len h3
      cases xs with
      | nil =>
        cases es with
        | nil => simp at h4
        | cons _ _ => simp at ln
      | cons y ys => exact both (bi_ok C f h2 ja ln.2) (by intro _; rfl)
    · cases h
  | .isi x t, X, sc, b, e, C, h => by
    simp only [okE] at h
    split at h
    · simp only [Bool.and_eq_true, decide_eq_true_eq] at h
      obtain ⟨⟨⟨⟨⟨rfl, h2⟩, h3⟩, h4⟩, h5⟩, h6⟩ := h
      obtain ⟨t1, t2, t3, t4⟩ := tyB_of h4
      exact both (je_isi (soundE x C h5).1 h6 (C.gl h2) (C.blt _ (by decide +kernel)) (C.gl h3) (C.blt _ t2) t1 t3 t4) (by intro _; rfl)
    · cases h
  | .app o x, X, sc, b, e, C, h => by
    simp only [okE] at h
    split at h
    · simp only [Bool.and_eq_true, decide_eq_true_eq] at h
      obtain ⟨⟨⟨⟨⟨rfl, h2⟩, h3⟩, h4⟩, h5⟩, h6⟩ := h
      exact both (je_app (soundE o C h4).1 (soundE x C h5).1 (noCall_of h2) h6 h3) (by intro _; rfl)
    · cases h
  | .dsp ks es, X, sc, b, e, C, h => by
    simp only [okE] at h
    split at h
    · rename_i keys values pos
      simp only [Bool.and_eq_true, decide_eq_true_eq] at h
      obtain ⟨⟨⟨⟨⟨h1, h2⟩, h3⟩, h4⟩, h5⟩, h6⟩ := h
      obtain ⟨l1, l2, nn⟩ := okKs_len h1
      have lv := (okEs_len h2).1
      exact both (je_dsp (soundDs es ks C h1 h2 h6) l2 (by omega) (nn (by simpa using h3)) (by omega) l1.symm h5) (by intro _; rfl)
    · cases h
  | .dget o x y, X, sc, b, e, C, h => by
    simp only [okE] at h
    split at h
    · simp only [Bool.and_eq_true, decide_eq_true_eq] at h
      obtain ⟨⟨⟨⟨⟨⟨⟨rfl, h2⟩, h3⟩, h4⟩, h5⟩, h6⟩, h7⟩, h8⟩ := h
      exact both (je_dget (by have := C.un; omega) (soundE o C h4).1 (soundE x C h5).1 (soundE y C h7).1 (noCall_of h2) h6 h8 h3) (by intro _; rfl)
    · cases h
  | .lc elt tg it ifs, X, sc, b, e, C, h => by
    simp only [okE] at h
    split at h
    · rename_i u t i fs scope pos
      simp only [Bool.and_eq_true] at h
      obtain ⟨⟨⟨⟨⟨⟨⟨h1, h2⟩, h3⟩, h4⟩, h5⟩, h6⟩, h7⟩, h8⟩ := h
      have bo := blkOk_by h1
      have Cb := fun s H cl c fp => C.blk bo.kind s H cl c fp
      have bo' : BlkOk X.N X.env.scope scope (ownOf N (tgS tg)) := by rw [C.scE, C.nm]; exact bo
      have hg := fun (s : Shared) (H : Hp) (c : Addr) (cl : List (Str × Addr)) (fp : List Addr) => soundT tg (Cb s H cl c fp) h6
      rw [← own_snd N (tgS tg)] at hg
      have ht : ∀ (s : Shared) (H : Hp) (c : Addr) (cl : List (Str × Addr)) (fp : List Addr), JTs (X.blk s H scope (compEnvC scope cl c X.env) fp) fs (evTests Γ ifs) := by
        intro s H c cl fp
        cases fs with
        | nil =>
          cases ifs with
          | nil => exact .inl ⟨rfl, fun τ h => rfl⟩
          | cons _ _ => simp at h7
        | cons f fr =>
          cases fr with
          | nil =>
            simp only [Bool.and_eq_true] at h7
            exact .inr ⟨f, rfl, soundTests ifs (Cb s H cl c fp) h7.1 h7.2⟩
          | cons _ _ => simp at h7
      have he := fun (s : Shared) (H : Hp) (c : Addr) (cl : List (Str × Addr)) (fp : List Addr) => (soundE elt (Cb s H cl c fp) h8).1
      have nd : X.N.Nodup := by rw [C.nm]; exact C.nd
      have := je_lc (pos := pos) C.calm nd (soundI it C h3) bo' hg ht he (folded_of h2)
      rw [own_snd] at this
      exact both this (by intro _; rfl)
    · cases h
  | .never, X, sc, b, e, C, h => ⟨je_never fun τ h => rfl, fun _ => jt_never fun τ h => rfl⟩
theorem soundEs {T : Cc} {Γ : Gm} {N : List Str} : ∀ (ms : List Ex) {X : Cx} {sc : Scope} {b : Bool} {es : List Expr}, CtxG T Γ X sc N b → okEs T N sc b ms es = true → JA X es (evs Γ ms)
  | [], X, sc, b, es, C, h => by
    simp only [okEs] at h
    obtain rfl := List.isEmpty_iff.mp h
    exact ja_nil
  | m :: ms, X, sc, b, es, C, h => by
    simp only [okEs] at h
    split at h
    · cases h
    · simp only [Bool.and_eq_true] at h
      exact ja_cons h.1.2 (soundE m C h.1.1).1 (soundEs ms C h.2)
theorem soundKw {T : Cc} {Γ : Gm} {N : List Str} : ∀ (kws : List Keyword) (ms : List Ex) {X : Cx} {sc : Scope} {b : Bool}, CtxG T Γ X sc N b → okEs T N sc b ms (kwVals kws) = true → JK X kws (evs Γ ms)
  | kws, [], X, sc, b, C, h => by
    simp only [okEs] at h
    have : kws = [] := by
      have := List.isEmpty_iff.mp h
      unfold kwVals at this
      simpa using this
    subst this
    exact jk_nil
  | [], m :: ms, X, sc, b, C, h => by simp [okEs, kwVals] at h
  | ⟨nm, e, kp⟩ :: kws, m :: ms, X, sc, b, C, h => by
    have h : okEs T N sc b (m :: ms) (e :: kwVals kws) = true := h
    simp only [okEs, Bool.and_eq_true] at h
    exact jk_cons (soundE m C h.1.1).1 (soundKw kws ms C h.2)
theorem soundDs {T : Cc} {Γ : Gm} {N : List Str} : ∀ (ms : List Ex) (ks : List Str) {X : Cx} {sc : Scope} {b : Bool} {keys : List (Option Expr)} {values : List Expr} {pos : Pos}, CtxG T Γ X sc N b → okKs ks keys = true → okEs T N sc b ms values = true → ms.length = ks.length →
    JPs X pos keys values ks (evs Γ ms)
  | [], [], X, sc, b, keys, values, pos, C, h1, h2, _ => by
    have e1 : keys = [] := List.isEmpty_iff.mp h1
    have e2 : values = [] := List.isEmpty_iff.mp (by simpa only [okEs] using h2)
    subst e1
    subst e2
    exact jps_nil
  | [], _ :: _, _, _, _, _, _, _, _, _, _, h => by cases h
  | _ :: _, [], _, _, _, _, _, _, _, _, _, h => by cases h
  | m :: ms, k :: ks, X, sc, b, keys, values, pos, C, h1, h2, h3 => by
    simp only [okKs] at h1
    split at h1
    · rename_i t _ _ l
      simp only [Bool.and_eq_true, decide_eq_true_eq] at h1
      simp only [okEs] at h2
      split at h2
      · cases h2
      · rename_i v values
        simp only [Bool.and_eq_true] at h2
        obtain ⟨rfl, h1⟩ := h1
        exact jps_cons (je_con pe_str fun _ _ => .str _) (soundE m C h2.1.1).1 (soundDs ms ks C h1 h2.2 (by simpa using h3))
    · cases h1
theorem soundAnd {T : Cc} {Γ : Gm} {N : List Str} : ∀ (ms : List Ex) {X : Cx} {sc : Scope} {b : Bool} {es : List Expr} {pos : Pos}, CtxG T Γ X sc N b → okEs T N sc b ms es = true → ms.all (fun e => !isIfe e) = true → ms ≠ [] →
    JE X (.BoolOp .And es pos) (evAnd Γ ms) ∧ JW X (.BoolOp .And es pos) fun τ h => getB (evAnd Γ ms τ h)
  | [], _, _, _, _, _, _, _, _, h => absurd rfl h
  | m :: ms, X, sc, b, es, pos, C, h, hi, _ => by
    simp only [okEs] at h
    split at h
    · cases h
    · rename_i e es
      simp only [Bool.and_eq_true] at h
      rw [List.all_cons, Bool.and_eq_true] at hi
      have q := soundE m C h.1.1
      have qt := q.2 (by simpa using hi.1)
      cases ms with
      | nil =>
        simp only [okEs] at h
        obtain rfl := List.isEmpty_iff.mp h.2
        exact ⟨je_one q.1, jw_and1 qt⟩
      | cons m2 ms =>
        have r := soundAnd (m2 :: ms) (pos := pos) C h.2 hi.2 (by simp)
        cases es with
        | nil => simp [okEs] at h
        | cons e2 es =>
          refine ⟨je_and q.1 r.1, ?_⟩
          have := jw_and qt r.2
          have eq : (fun τ h => getB (evAnd Γ (m :: m2 :: ms) τ h)) = fun τ h => (getB (ev Γ m τ h)).bind fun (t, h1) => match t with
              | true => getB (evAnd Γ (m2 :: ms) τ h1)
              | false => some (false, h1) := by
            funext τ h
            show getB ((getB (ev Γ m τ h)).bind _) = _
            cases getB (ev Γ m τ h) with
            | none => rfl
            | some p =>
              obtain ⟨t, h1⟩ := p
              cases t <;> rfl
          rw [eq]
          exact this
theorem soundOr {T : Cc} {Γ : Gm} {N : List Str} : ∀ (ms : List Ex) {X : Cx} {sc : Scope} {b : Bool} {es : List Expr} {pos : Pos}, CtxG T Γ X sc N b → okEs T N sc b ms es = true → ms.all (fun e => !isIfe e) = true → ms ≠ [] →
    JE X (.BoolOp .Or es pos) (evOr Γ ms) ∧ JW X (.BoolOp .Or es pos) fun τ h => getB (evOr Γ ms τ h)
  | [], _, _, _, _, _, _, _, _, h => absurd rfl h
  | m :: ms, X, sc, b, es, pos, C, h, hi, _ => by
    simp only [okEs] at h
    split at h
    · cases h
    · rename_i e es
      simp only [Bool.and_eq_true] at h
      rw [List.all_cons, Bool.and_eq_true] at hi
      have q := soundE m C h.1.1
      have qt := q.2 (by simpa using hi.1)
      cases ms with
      | nil =>
        simp only [okEs] at h
        obtain rfl := List.isEmpty_iff.mp h.2
        exact ⟨je_one q.1, jw_or1 qt⟩
      | cons m2 ms =>
        have r := soundOr (m2 :: ms) (pos := pos) C h.2 hi.2 (by simp)
        cases es with
        | nil => simp [okEs] at h
        | cons e2 es =>
          refine ⟨je_or q.1 r.1, ?_⟩
          have := jw_or qt r.2
          have eq : (fun τ h => getB (evOr Γ (m :: m2 :: ms) τ h)) = fun τ h => (getB (ev Γ m τ h)).bind fun (t, h1) => match t with
              | true => some (true, h1)
              | false => getB (evOr Γ (m2 :: ms) τ h1) := by
            funext τ h
            show getB ((getB (ev Γ m τ h)).bind _) = _
            cases getB (ev Γ m τ h) with
            | none => rfl
            | some p =>
              obtain ⟨t, h1⟩ := p
              cases t <;> rfl
          rw [eq]
          exact this
theorem soundTests {T : Cc} {Γ : Gm} {N : List Str} : ∀ (ms : List Ex) {X : Cx} {sc : Scope} {b : Bool} {e : Expr}, CtxG T Γ X sc N b → okEs T N sc b ms [e] = true → ms.all (fun e => !isIfe e) = true → JT X e (evTests Γ ms)
  | [], X, sc, b, e, C, h, _ => by simp [okEs] at h
  | m :: ms, X, sc, b, e, C, h, hi => by
    simp only [okEs, Bool.and_eq_true] at h
    rw [List.all_cons, Bool.and_eq_true] at hi
    exact (soundE m C h.1.1).2 (by simpa using hi.1)
theorem soundT {T : Cc} {Γ : Gm} {N : List Str} : ∀ (t : Tg) {X : Cx} {sc : Scope} {b : Bool} {e : Expr}, CtxG T Γ X sc N b → okT T N sc b t e = true → JG X e (tgS t) (asgT Γ t)
  | .nm i, X, sc, b, e, C, h => by
    simp only [okT] at h
    split at h
    · simp only [Bool.and_eq_true] at h
      obtain ⟨h1, h2⟩ := loc_of h.2
      have a := atB_eq h.1
      rw [← C.nm] at a
      rw [← C.scE] at h1 h2
      exact jg_name (by rw [C.nm]; exact C.nd) a h1 (h2.elim (fun z => .inl (C.fnb _ z)) .inr)
    · cases h
  | .tp ts, X, sc, b, e, C, h => by
    simp only [okT] at h
    split at h
    · have ln := okTs_len h
      exact jg_tup C.calm (soundTs ts C h) ln.2 fun ds τ h r q => (asgTs_len q).trans ln.1.symm
    · cases h
  | .sub o i, X, sc, b, e, C, h => by
    simp only [okT] at h
    split at h
    · simp only [Bool.and_eq_true] at h
      exact jg_sub (soundE o C h.1.2).1 (soundE i C h.2).1 (noSlice_of h.1.1)
    · cases h
theorem soundTs {T : Cc} {Γ : Gm} {N : List Str} : ∀ (ts : List Tg) {X : Cx} {sc : Scope} {b : Bool} {es : List Expr}, CtxG T Γ X sc N b → okTs T N sc b ts es = true → JGs X es (tgSs ts) (asgTs Γ ts)
  | [], X, sc, b, es, C, h => by
    simp only [okTs] at h
    obtain rfl := List.isEmpty_iff.mp h
    have e : asgTs Γ [] = fun ds τ h => match ds with
        | [] => some (τ, h)
        | _ :: _ => none := by
      funext ds τ h
      cases ds <;> rfl
    rw [e]
    exact jgs_nil
  | t :: ts, X, sc, b, es, C, h => by
    simp only [okTs] at h
    split at h
    · cases h
    · simp only [Bool.and_eq_true] at h
      have e : asgTs Γ (t :: ts) = fun ds τ h => match ds with
          | [] => none
          | d :: dr => (asgT Γ t d τ h).bind fun (σ1, h1) => asgTs Γ ts dr σ1 h1 := by
        funext ds τ h
        cases ds <;> rfl
      rw [e]
      exact jgs_cons (soundT t C h.1.1) (soundTs ts C h.2) h.1.2
theorem soundI {T : Cc} {Γ : Gm} {N : List Str} : ∀ (it : It) {X : Cx} {sc : Scope} {b : Bool} {t i : Expr}, CtxG T Γ X sc N b → okI T N sc b it t i = true → JI X t i (evIt Γ it)
  | .ex e, X, sc, b, t, i, C, h => by
    simp only [okI] at h
    exact ji_ex (soundE e C h).1
  | .rng1 a, X, sc, b, t, i, C, h => by
    simp only [okI] at h
    split at h
    · simp only [Bool.and_eq_true, decide_eq_true_eq] at h
      obtain ⟨⟨⟨rfl, h2⟩, h3⟩, h4⟩ := h
      exact ji_rng1 (soundE a C h3).1 h4 (C.gl h2) (C.blt _ (by decide +kernel))
    · cases h
  | .rng2 a c, X, sc, b, t, i, C, h => by
    simp only [okI] at h
    split at h
    · simp only [Bool.and_eq_true, decide_eq_true_eq] at h
      obtain ⟨⟨⟨⟨⟨rfl, h2⟩, h3⟩, h4⟩, h5⟩, h6⟩ := h
      exact ji_rng2 (soundE a C h3).1 (soundE c C h5).1 h4 h6 (C.gl h2) (C.blt _ (by decide +kernel))
    · cases h
  | .enum a, X, sc, b, t, i, C, h => by
    simp only [okI] at h
    split at h
    · simp only [Bool.and_eq_true, decide_eq_true_eq] at h
      obtain ⟨⟨⟨⟨rfl, h2⟩, h3⟩, h4⟩, h5⟩ := h
      cases t <;> first | (simp [isTup] at h3; done) | exact ji_enum (soundE a C h4).1 h5 (C.gl h2) (C.blt _ (by decide +kernel))
    · cases h
  | .zip a c, X, sc, b, t, i, C, h => by
    simp only [okI] at h
    split at h
    · simp only [Bool.and_eq_true, decide_eq_true_eq] at h
      obtain ⟨⟨⟨⟨⟨⟨rfl, h2⟩, h3⟩, h4⟩, h5⟩, h6⟩, h7⟩ := h
      cases t <;> first | (simp [isTup] at h3; done) | exact ji_zip (soundE a C h4).1 (soundE c C h6).1 h5 h7 (C.gl h2) (C.blt _ (by decide +kernel))
    · cases h
end
end Fq

set_option maxHeartbeats 8000000
/-! Fq: statements and defs that fit keep their plain meaning. -/
namespace Fq
open PySem PySem.Spec PyProof.Rows L2

theorem swapped_two {x y : Str} {px py pt pt2 : Pos} {kt k2 : Nat} {u v : Expr} {env : Env} (hk : env.scope.kind = .function) (hx : env.scope.names.lookup x = some .local) (hy : env.scope.names.lookup y = some .local)
    (hu : noStar u = true) (hv : noStar v = true) (hl : (px.line == py.line) = true) (hxy : (x == y) = false) (h1 : [u, v].all (foldedForSure 8) = false) (h2 : [u, v].all (constantsAlone 8) = false) :
    swappedStores [.Tuple [.Name x px, .Name y py] kt pt] (.Tuple [u, v] k2 pt2) env = pure (some [x, y]) := by
  have hs : ([u, v].any fun | .Starred .. => true | _ => false) = false := by
    simp only [List.any_cons, List.any_nil, Bool.or_false]
    cases u <;> first | (simp [noStar] at hu; done) | (cases v <;> first | rfl | (simp [noStar] at hv; done))
  have kx : env.kindOf x = some .local := hx
  have ky : env.kindOf y = some .local := hy
  have hb : env.blockKind = .function := by unfold Env.blockKind; rw [hk]; rfl
  have hl' : (py.line == px.line) = true := by
    have : px.line = py.line := by simpa using hl
    rw [this]; simp
  have hxy' : ¬ x = y := by simpa using hxy
  have hd : ([x, y] : List Str).eraseDups.length = 2 := by
    rw [List.eraseDups_cons, List.filter_cons]
    have e : (!y == x) = true := by
      simp
      exact fun z => hxy' z.symm
    rw [if_pos e]
    simp [List.eraseDups_cons]
  have hn : ([Expr.Name x px, Expr.Name y py].filterMap fun
      | .Name id pos => if env.kindOf id == some .local && pos.line == px.line then some id else none
      | _ => none) = [x, y] := by
    simp only [List.filterMap_cons, List.filterMap_nil, kx, ky, hl']
    simp
  unfold swappedStores
  show (if (!(2 == 2 || 2 == 3) || (2 != 2) || env.blockKind != .function) = true then pure none else _) = _
  rw [hb]
  show (if ([u, v].any fun | .Starred .. => true | _ => false) = true then pure none else _) = _
  rw [hs]
  show (if (([Expr.Name x px, Expr.Name y py].filterMap fun
      | .Name id pos => if env.kindOf id == some .local && pos.line == px.line then some id else none
      | _ => none).length != 2 || ([Expr.Name x px, Expr.Name y py].filterMap fun
      | .Name id pos => if env.kindOf id == some .local && pos.line == px.line then some id else none
      | _ => none).eraseDups.length != ([Expr.Name x px, Expr.Name y py].filterMap fun
      | .Name id pos => if env.kindOf id == some .local && pos.line == px.line then some id else none
      | _ => none).length) = true then pure none else if [u, v].all (foldedForSure 8) = true then pure none else _) = _
  rw [hn, hd, h1]
  show (if [u, v].all (constantsAlone 8) = true then _ else _) = _
  rw [h2]
  show (pure (some ([Expr.Name x px, Expr.Name y py].filterMap fun
      | .Name id pos => if env.kindOf id == some .local && pos.line == px.line then some id else none
      | _ => none)) : Sem (Option (List Str))) = _
  rw [hn]

theorem lc_parts {T : Cc} {Γ : Gm} {N : List Str} {X : Cx} {sc : Scope} {b : Bool} {elt : Ex} {tg : Tg} {it : It} {ifs : List Ex} {u t i : Expr} {fs : List Expr} {scope : Scope} {pos : Pos} (C : CtxG T Γ X sc N b)
    (h : okE T N sc b (.lc elt tg it ifs) (.ListComp u [⟨t, i, fs, 0⟩] scope pos) = true) :
    BlkOk X.N X.env.scope scope (ownOf N (tgS tg)) ∧ JI X t i (evIt Γ it) ∧
    (∀ (s : Shared) (H : Hp) (c : Addr) (cl : List (Str × Addr)) (fp : List Addr), JG (X.blk s H scope (compEnvC scope cl c X.env) fp) t ((ownOf N (tgS tg)).map (·.2)) (asgT Γ tg)) ∧
    (∀ (s : Shared) (H : Hp) (c : Addr) (cl : List (Str × Addr)) (fp : List Addr), JTs (X.blk s H scope (compEnvC scope cl c X.env) fp) fs (evTests Γ ifs)) ∧
    (∀ (s : Shared) (H : Hp) (c : Addr) (cl : List (Str × Addr)) (fp : List Addr), JE (X.blk s H scope (compEnvC scope cl c X.env) fp) u (ev Γ elt)) ∧ ∀ x, foldedSetIterable i X.env x = pure x := by
  simp only [okE, Bool.and_eq_true] at h
  obtain ⟨⟨⟨⟨⟨⟨⟨h1, h2⟩, h3⟩, h4⟩, h5⟩, h6⟩, h7⟩, h8⟩ := h
  have bo := blkOk_by h1
  have Cb := fun s H cl c fp => C.blk bo.kind s H cl c fp
  have bo' : BlkOk X.N X.env.scope scope (ownOf N (tgS tg)) := by rw [C.scE, C.nm]; exact bo
  have hg := fun (s : Shared) (H : Hp) (c : Addr) (cl : List (Str × Addr)) (fp : List Addr) => soundT tg (Cb s H cl c fp) h6
  rw [← own_snd N (tgS tg)] at hg
  refine ⟨bo', soundI it C h3, hg, ?_, fun s H c cl fp => (soundE elt (Cb s H cl c fp) h8).1, folded_of h2⟩
  intro s H c cl fp
  cases fs with
  | nil =>
    cases ifs with
    | nil => exact .inl ⟨rfl, fun τ h => rfl⟩
    | cons _ _ => simp at h7
  | cons f fr =>
    cases fr with
    | nil =>
      simp only [Bool.and_eq_true] at h7
      exact .inr ⟨f, rfl, soundTests ifs (Cb s H cl c fp) h7.1 h7.2⟩
    | cons _ _ => simp at h7
theorem tupNoStar_of {x : Expr} (h : tupNoStar x = true) : ∀ vs k p, x = .Tuple vs k p → vs.all noStar = true := by
  intro vs k p z
  subst z
  exact h
mutual
theorem soundS {T : Cc} {Γ : Gm} {N : List Str} {sc : Scope} {X : Cx} (C : CtxG T Γ X sc N true) : ∀ (m : St) {s : Stmt}, okS T N sc m s = true → JS X s (exe Γ m)
  | .asg t e, s, h => by
    have nd : X.N.Nodup := by rw [C.nm]; exact C.nd
    simp only [okS] at h
    split at h
    · rename_i tg x spos
      split at h
      · rename_i i elt ctg it ifs
        split at h
        · rename_i y py u ct ci fs scope pos
          rw [Bool.or_eq_true] at h
          rcases h with h | h
          · simp only [Bool.and_eq_true] at h
            obtain ⟨⟨⟨⟨h1, h2⟩, h3⟩, h4⟩, h5⟩ := h
            obtain ⟨p1, p2, p3, p4, p5, p6⟩ := lc_parts C h5
            have a := atB_eq h1
            rw [← C.nm] at a
            have o := only_of h2
            rw [← C.scE] at o
            have kd : X.env.scope.kind = .function := by rw [C.scE]; exact C.kd
            have r := js_setLc (py := py) (pos := pos) (spos := spos) C.calm nd a o kd h3 (by simpa using h4) p2 p1 p3 p4 p5 p6
            rw [own_snd] at r
            have e : exe Γ (.asg (.nm i) (.lc elt ctg it ifs)) = fun τ h => (lcMean (tgS ctg) (evIt Γ it) (asgT Γ ctg) (evTests Γ ifs) (ev Γ elt) τ h).bind fun (x, h1) => some (.nx, τ.set i (some x), h1) := by
              funext τ h
              rfl
            rw [e]
            exact r
          · simp only [Bool.and_eq_true] at h
            obtain ⟨⟨h1, h2⟩, h5⟩ := h
            have nl : onlyB sc y = false := by simpa [cellC] using h2
            have kd2 : X.env.kindOf y ≠ some .local := by
              intro z
              have z : X.env.scope.names.lookup y = some .local := z
              rw [C.scE] at z
              unfold onlyB at nl
              rw [z] at nl
              cases nl
            refine js_asgC (soundE _ C h5).1 (soundT (.nm i) C h1) (fun l => ?_) rfl rfl
            have q : (X.env.kindOf y == some .local) = false := by simpa using kd2
            show (pure (X.env.blockKind == .function && X.env.kindOf y == some .local && py.line == pos.line && !(scope.names.any fun (n, k) => n == y && (k == .local || k == .cell))) : Sem Bool) = pure false
            rw [q, Bool.and_false, Bool.false_and, Bool.false_and]
        · cases h
      · simp only [Bool.and_eq_true] at h
        obtain ⟨⟨⟨⟨⟨h1, h2⟩, h3⟩, h4⟩, h5⟩, h6⟩ := h
        rw [Bool.or_eq_true] at h4
        rcases h4 with h4 | h4
        · exact js_asg (soundE e C h2).1 (soundT t C h1) h3 h4 (tupNoStar_of h5) h6
        · refine js_asgC (soundE e C h2).1 (soundT t C h1) (fun l => swaps_plain h3) ?_ h6
          unfold cellT at h4
          split at h4
          · rename_i ts k1 p1 vs k2 p2
            refine swapped_cell (tupNoStar_of h5 _ _ _ rfl) ?_
            rw [Bool.or_eq_true] at h4
            rcases h4 with h4 | h4
            · exact .inl (by simpa using h4)
            · right
              obtain ⟨u, hu, eu⟩ := List.any_eq_true.mp h4
              refine ⟨u, hu, ?_⟩
              intro y p z
              subst z
              intro q
              have q : X.env.scope.names.lookup y = some .local := q
              rw [C.scE] at q
              have eu : (!onlyB sc y) = true := eu
              unfold onlyB at eu
              rw [q] at eu
              cases eu
          · cases h4
    · cases h
  | .par i j a b, s, h => by
    have nd : X.N.Nodup := by rw [C.nm]; exact C.nd
    simp only [okS] at h
    split at h
    · simp only [Bool.and_eq_true] at h
      obtain ⟨⟨⟨⟨⟨⟨⟨⟨⟨⟨⟨⟨h1, h2⟩, h3⟩, h4⟩, h5⟩, h6⟩, h7⟩, h8⟩, h9⟩, h10⟩, h11⟩, h12⟩, h13⟩ := h
      have a1 := atB_eq h1
      rw [← C.nm] at a1
      have a2 := atB_eq h2
      rw [← C.nm] at a2
      have o1 := only_of h4
      rw [← C.scE] at o1
      have o2 := only_of h5
      rw [← C.scE] at o2
      have kd : X.env.scope.kind = .function := by rw [C.scE]; exact C.kd
      exact js_par C.calm nd a1 a2 (by simpa using h3) o1 o2 (soundE a C h6).1 (soundE b C h7).1 h8 h9 (swapped_two kd o1 o2 h8 h9 h10 (by simpa using h11) (Bool.not_eq_true' _ |>.mp h12) (Bool.not_eq_true' _ |>.mp h13))
    · cases h
  | .aug i o e, s, h => by
    have nd : X.N.Nodup := by rw [C.nm]; exact C.nd
    simp only [okS] at h
    split at h
    · rename_i y _ _ _ _
      simp only [Bool.and_eq_true] at h
      obtain ⟨⟨⟨h1, h2⟩, h3⟩, h4⟩ := h
      have a1 := atB_eq h1
      rw [← C.nm] at a1
      obtain ⟨l1, l2⟩ := loc_of h2
      rw [← C.scE] at l1 l2
      have l3 : X.fn y = true ∨ X.env.scope.names.lookup y = some .local := l2.elim (fun z => Or.inl (C.fnb _ z)) Or.inr
      split at h4
      · exact js_aug nd a1 l1 (soundE e C h3).1 ip_add l3
      · exact js_aug nd a1 l1 (soundE e C h3).1 ip_sub l3
      · cases h4
    · cases h
  | .expr e, s, h => by
    simp only [okS] at h
    split at h
    · simp only [Bool.and_eq_true] at h
      exact js_expr (soundE e C h.1).1 h.2
    · cases h
  | .ret e, s, h => by
    simp only [okS] at h
    split at h
    · exact js_ret (soundE e C h).1
    · cases h
  | .retN, s, h => by
    simp only [okS] at h
    split at h
    · exact js_retN
    · cases h
  | .ift c a b, s, h => by
    simp only [okS] at h
    split at h
    · simp only [Bool.and_eq_true] at h
      exact js_if ((soundE c C h.1.1.1).2 (by simpa using h.1.1.2)) (soundSs C a h.1.2) (soundSs C b h.2)
    · cases h
  | .whl c b fu, s, h => by
    simp only [okS] at h
    split at h
    · simp only [Bool.and_eq_true] at h
      exact js_while fu C.xe ((soundE c C h.1.1).2 (by simpa using h.1.2)) (soundSs C b h.2)
    · cases h
  | .for t it b, s, h => by
    simp only [okS] at h
    split at h
    · simp only [Bool.and_eq_true] at h
      exact js_for C.xe C.calm (soundI it C h.1.1.1) (soundT t C h.1.2) (soundSs C b h.2) (folded_of h.1.1.2)
    · cases h
  | .pass, s, h => by
    simp only [okS] at h
    split at h
    · exact js_pass
    · cases h
  | .brk, s, h => by
    simp only [okS] at h
    split at h
    · exact js_break
    · cases h
  | .cont, s, h => by
    simp only [okS] at h
    split at h
    · exact js_cont
    · cases h
  | .never, s, h => js_never fun τ h => rfl
theorem soundSs {T : Cc} {Γ : Gm} {N : List Str} {sc : Scope} {X : Cx} (C : CtxG T Γ X sc N true) : ∀ (ms : List St) {ss : List Stmt}, okSs T N sc ms ss = true → JSs X ss (exes Γ ms)
  | [], ss, h => by
    simp only [okSs] at h
    obtain rfl := List.isEmpty_iff.mp h
    exact jss_nil
  | m :: ms, ss, h => by
    simp only [okSs] at h
    split at h
    · cases h
    · simp only [Bool.and_eq_true] at h
      exact jss_cons (soundS C m h.1) (soundSs C ms h.2)
end

/-! ### defs -/
def PatOk (K : PySem.W.Frag) (fd : FuncData) (ps : List Str) (n : Nat) (ks : List Str) (arr : List D → List D) : Prop :=
  (ks = [] ∧ ∃ ds dvs, Binds K fd ps ds ∧ Vals dvs ds ∧ ∀ H m xs vs, xs.length = n → RepL K H m xs vs → RepL K H m (arr xs) (vs ++ dvs)) ∨
    (ks ≠ [] ∧ ∃ gg gV, KBn K fd ps n ks gg gV ∧ ∀ H m xs zs vs ws, xs.length = n → zs.length = ks.length → RepL K H m xs vs → RepL K H m zs ws → RepL K H m (arr (xs ++ zs)) (gV vs ws))
structure FnInfo (K : PySem.W.Frag) (mg : Str → Option Value) (T : Cc) (pat : Nat → Nat → List D → List D) (dfs : Nat → Option Df) (j : Nat) (x : Str) : Prop where
  ex : ∃ (st : Stmt) (f : Addr) (fd : FuncData) (N : List Str) (df : Df) (dvs : List V), FunD K x x (defArgs st) (defBody st) (defScope st) dvs [] f fd ∧ FnScope N (T.prm j) (defScope st) ∧ mg x = some (.ref f) ∧ Binds K fd (T.prm j) [] ∧ dfs j = some df ∧ df.ps = (T.prm j).length ∧ df.n = N.length ∧
    okSs T N (defScope st) df.body (defBody st) = true ∧ ∀ p n ks, T.pk j p = some (n, ks) → PatOk K fd (T.prm j) n ks (pat j p)
/-- the promise of a def with the plain meaning g -/
def spOf (K : PySem.W.Frag) (n : Nat) (g : List D → MH → Option (D × MH)) : Sp := fun vs H Q _ =>
  vs.length = n ∧ ∃ m h xs d h', HRel K H m h ∧ RepL K H m xs vs ∧ g xs h = some (d, h') ∧ Then K H m d h' Q
theorem start_rel {K : PySem.W.Frag} {H : Hp} {m : List Addr} {xs : List D} {vs : List V} {N : List Str} (r : RepL K H m xs vs) : ERel K H m (startD N.length xs) (L2.start N vs) := by
  have hl := r.len
  unfold startD L2.start
  refine ⟨by simp [hl], fun i d e => ?_⟩
  by_cases hi : i < xs.length
  · rw [List.getElem?_append_left (by simpa using hi), List.getElem?_map] at e
    obtain ⟨d', e1, e2⟩ := Option.map_eq_some_iff.mp e
    cases e2
    obtain ⟨v, ev, rv⟩ := r.get e1
    exact ⟨v, by rw [List.getElem?_append_left (by simp; omega), List.getElem?_map, ev]; rfl, rv⟩
  · rw [List.getElem?_append_right (by simpa using hi), List.getElem?_replicate] at e
    split at e <;> cases e
section
variable {P : Program} {w : World} {K : PySem.W.Frag} {mg : Str → Option Value} {base : Heap} {T : Cc} {con : Nat → D} {pat : Nat → Nat → List D → List D} {dfs : Nat → Option Df}
/-- all defs, to any depth of calls -/
theorem run_ok (hcon : ∀ k x, T.cons[k]? = some x → ∃ u v, mg x = some u ∧ RelV v u ∧ ∀ H m, Rep K H m (con k) v) (hblt : ∀ x, x ∈ bltNames → mg x = none)
    (hfn : ∀ j x, T.fns[j]? = some x → FnInfo K mg T pat dfs j x) : ∀ (k : Nat) (j : Nat) (x : Str), T.fns[j]? = some x →
    ∃ (st : Stmt) (f : Addr) (fd : FuncData) (df : Df) (dvs : List V), dfs j = some df ∧ df.ps = (T.prm j).length ∧ FunD K x x (defArgs st) (defBody st) (defScope st) dvs [] f fd ∧ mg x = some (.ref f) ∧ Binds K fd (T.prm j) [] ∧ (∀ p n ks, T.pk j p = some (n, ks) → PatOk K fd (T.prm j) n ks (pat j p)) ∧
      FnG P w K mg base k f fd (T.prm j) (spOf K (T.prm j).length (run con pat dfs k j))
  | 0, j, x, hx => by
    obtain ⟨st, f, fd, N, df, dvs, F, S, hm, hb, hd, h1, h2, hok, hp⟩ := (hfn j x hx).ex
    refine ⟨st, f, fd, df, dvs, hd, h1, F, hm, hb, hp, ⟨fun vs H Q E h => h.1, fun A outer s H args us vs Q E gd hr e0 bt r h => ?_⟩⟩
    obtain ⟨_, m, h, xs, d, h', _, _, e, _⟩ := h
    cases e
  | k + 1, j, x, hx => by
    obtain ⟨st, f, fd, N, df, dvs, F, S, hm, hb, hd, h1, h2, hok, hp⟩ := (hfn j x hx).ex
    refine ⟨st, f, fd, df, dvs, hd, h1, F, hm, hb, hp, fun_okG F S (fun vs H Q E h => h.1) fun cdv A outer s H vs Q E gd hr h => ?_⟩
    obtain ⟨hl, m, h, xs, d, h', R, r, e, kk⟩ := h
    have C : CtxG T ⟨con, run con pat dfs k, pat⟩ (cxOf CX0 P w K mg base N x (defScope st) f cdv A outer s H E).nox (defScope st) N true :=
      { scE := rfl, nm := rfl, nd := S.nd, kd := S.kind, calm := rfl, fnb := fun _ _ => rfl, xe := rfl, un := by have := hr.un; show (A.deeper (envOfC x (defScope st) s.heap.objs.size f cdv)).units + 65 < cLine; omega, gd := gd, con := hcon, blt := hblt,
        fns := fun i y hy => by
          obtain ⟨st', f', fd', df', dvs', d1, d2, F', hm', hb', _, G⟩ := run_ok hcon hblt hfn k i y hy
          refine ⟨k, f', fd', _, _, G, gd, hr, hm', F'.kp, hb', fun H m h xs vs d h' Q E R r e kk => ⟨?_, m, h, xs, d, h', R, r, e, kk⟩⟩
          cases k with
          | zero => cases e
          | succ k =>
            have e : ((dfs i).bind fun df => if xs.length = df.ps then outD (exes ⟨con, run con pat dfs k, pat⟩ df.body (startD df.n xs) h) else none) = some (d, h') := e
            rw [d1] at e
            simp only [Option.bind_some] at e
            split at e
            · rename_i c; rw [← r.len, c, d2]
            · cases e
        pats := fun i p n ks y hpk hy => by
          obtain ⟨st', f', fd', df', dvs', d1, d2, F', hm', hb', hp', G⟩ := run_ok hcon hblt hfn k i y hy
          refine ⟨k, f', fd', _, _, G, gd, hr, hm', F'.kp, fun H m h xs vs d h' Q E R r e kk => ⟨?_, m, h, xs, d, h', R, r, e, kk⟩, hp' p n ks hpk⟩
          cases k with
          | zero => cases e
          | succ k =>
            have e : ((dfs i).bind fun df => if xs.length = df.ps then outD (exes ⟨con, run con pat dfs k, pat⟩ df.body (startD df.n xs) h) else none) = some (d, h') := e
            rw [d1] at e
            simp only [Option.bind_some] at e
            split at e
            · rename_i c; rw [← r.len, c, d2]
            · cases e }
    obtain ⟨t, pt, ot⟩ := soundSs C df.body hok
    refine ⟨t, pt.nox, ?_⟩
    have e : ((dfs j).bind fun df => if xs.length = df.ps then outD (exes ⟨con, run con pat dfs k, pat⟩ df.body (startD df.n xs) h) else none) = some (d, h') := e
    rw [hd] at e
    simp only [Option.bind_some] at e
    split at e
    · cases q : exes ⟨con, run con pat dfs k, pat⟩ df.body (startD df.n xs) h with
      | none => rw [q] at e; cases e
      | some z =>
        obtain ⟨fl, τ', h1'⟩ := z
        rw [q] at e
        have E0 : ERel K H m (startD df.n xs) (L2.start N vs) := by rw [h2]; exact start_rel r
        refine ot _ _ H _ m h fl τ' h1' R E0 q ?_
        cases fl with
        | nx => cases e; exact fun σ' H' m' g R' _ => kk _ _ _ g R' .non
        | rt d' => cases e; exact kk
        | bk => cases e
        | ct => cases e
    · cases e
end
theorem fd_inj {K : PySem.W.Frag} {x y x' y' : Str} {a a' : Arguments} {b b' : List Stmt} {s s' : Scope} {dv dv' : List V} {kw kw' : List (Str × V)} {f : Addr} {fd fd' : FuncData} (F : FunD K x y a b s dv kw f fd) (F' : FunD K x' y' a' b' s' dv' kw' f fd') : fd = fd' := by
  obtain ⟨_, _, _, _, _, _, _, _, _, _, _, e1, _⟩ := F.ex
  obtain ⟨_, _, _, _, _, _, _, _, _, _, _, e2, _⟩ := F'.ex
  rw [e1] at e2
  injection e2 with e2
  injection e2 with _ _ e3 _
  injection e3
/-- all members of a list, with their places -/
def Fa {α : Type} (Q : Nat → α → Prop) : Nat → List α → Prop
  | _, [] => True
  | i, x :: r => Q i x ∧ Fa Q (i + 1) r
theorem fa_at {α : Type} {Q : Nat → α → Prop} : ∀ {l : List α} {i : Nat}, Fa Q i l → ∀ {j : Nat} {x : α}, l[j]? = some x → Q (i + j) x
  | [], _, _, _, _, h => by simp at h
  | y :: r, i, f, 0, x, h => by simp at h; subst h; exact f.1
  | y :: r, i, f, j + 1, x, h => by
    have := fa_at f.2 (j := j) (x := x) (by simpa using h)
    rwa [show i + (j + 1) = i + 1 + j by omega]
theorem fa_all {α : Type} {Q : Nat → α → Prop} {l : List α} (f : Fa Q 0 l) : ∀ j x, l[j]? = some x → Q j x := fun j x h => by
  have := fa_at f h
  rwa [Nat.zero_add] at this
/-- a written tuple of the module -/
theorem script_rep {K : PySem.W.Frag} {H : Hp} {a : Addr} {ns : List Int} (hO : Only H) (hS : SqL K H a (ns.map V.int)) : RepL K H [] [.frl (ns.map .int)] [.ref a] := by
  have h : FzL K H a (ns.map V.int) := by
    rcases hS with (h | h) | h
    · rcases hO a with z | ⟨o, xs, z⟩
      · rw [z] at h; cases h
      · rw [z] at h; cases h
    · exact .inl h
    · exact .inr h
  have its : ∀ l : List Int, RepL K H [] (l.map D.int) (l.map V.int) := fun l => by
    induction l with
    | nil => exact .nil
    | cons x l ih => exact .cons (.int x) ih
  exact .cons (.frl h (its ns)) .nil
end Fq

set_option maxHeartbeats 4000000
/-! Fq: what the top leaves: constants, defs, defaults. -/
namespace Fq
open PySem PySem.Spec PyProof.Rows L2

/-! does the value u stand for the datum d? -/
mutual
def datB (K : PySem.W.Frag) : D → Value → Bool
  | .non, u => match u with
    | .none => true
    | _ => false
  | .bl b, u => match u with
    | .bool c => decide (b = c)
    | _ => false
  | .int i, u => match u with
    | .int j _ => decide (i = j)
    | _ => false
  | .str s, u => match u with
    | .str t _ => decide (s = t)
    | _ => false
  | .tup ds, u => match u with
    | .ref a => (match K.lookup a with
      | some ⟨.type c, _, .seq its _, _⟩ => decide (c = "tuple") && decide (its.size ≤ sizeLine) && datsB K ds its.toList
      | _ => false)
    | _ => false
  | .ref _, _ => false
  | .frl _, _ => false
  | .dct _ _, _ => false
def datsB (K : PySem.W.Frag) : List D → List Value → Bool
  | [], us => us.isEmpty
  | d :: ds, us => match us with
    | [] => false
    | u :: us => datB K d u && datsB K ds us
end
mutual
theorem datB_ok {K : PySem.W.Frag} : ∀ {d : D} {u : Value}, datB K d u = true → ∃ v, RelV v u ∧ ∀ H m, Rep K H m d v
  | .non, u, h => by
    simp only [datB] at h
    split at h
    · exact ⟨.non, rfl, fun _ _ => .non⟩
    · cases h
  | .bl b, u, h => by
    simp only [datB] at h
    split at h
    · obtain rfl := of_decide_eq_true h
      exact ⟨.bl _, rfl, fun _ _ => .bl _⟩
    · cases h
  | .int i, u, h => by
    simp only [datB] at h
    split at h
    · obtain rfl := of_decide_eq_true h
      exact ⟨.int _, ⟨_, rfl⟩, fun _ _ => .int _⟩
    · cases h
  | .str s, u, h => by
    simp only [datB] at h
    split at h
    · obtain rfl := of_decide_eq_true h
      exact ⟨.str _, ⟨_, rfl⟩, fun _ _ => .str _⟩
    · cases h
  | .tup ds, u, h => by
    simp only [datB] at h
    split at h
    · rename_i a
      split at h
      · rename_i c dd its n sl e
        simp only [Bool.and_eq_true, decide_eq_true_eq] at h
        obtain ⟨⟨rfl, h2⟩, h3⟩ := h
        obtain ⟨vs, rv, rr⟩ := datsB_ok h3
        exact ⟨.ref a, rfl, fun H m => .tup (.inr ⟨_, its, n, e, rfl, rfl, h2, rv⟩) (rr H m)⟩
      · cases h
    · cases h
  | .ref _, _, h => by simp [datB] at h
  | .frl _, _, h => by simp [datB] at h
  | .dct _ _, _, h => by simp [datB] at h
theorem datsB_ok {K : PySem.W.Frag} : ∀ {ds : List D} {us : List Value}, datsB K ds us = true → ∃ vs, Vals vs us ∧ ∀ H m, RepL K H m ds vs
  | [], us, h => by
    simp only [datsB] at h
    obtain rfl := List.isEmpty_iff.mp h
    exact ⟨[], .nil, fun _ _ => .nil⟩
  | d :: ds, us, h => by
    simp only [datsB] at h
    split at h
    · cases h
    · simp only [Bool.and_eq_true] at h
      obtain ⟨v, r, q⟩ := datB_ok h.1
      obtain ⟨vs, rs, qs⟩ := datsB_ok h.2
      exact ⟨v :: vs, .cons r rs, fun H m => .cons (q H m) (qs H m)⟩
end
/-- the module's constants -/
def consB (cs : List (Str × D)) (K : PySem.W.Frag) : Bool := cs.all fun q => match PySem.W.nsIn K mainGlobals q.1 with
  | some (some u) => datB K q.2 u
  | _ => false
theorem consB_ok {cs : List (Str × D)} {K : PySem.W.Frag} {h : Heap} {mg : Str → Option Value} (X : K.In h) (G : h.Ns mainGlobals mg) (c : consB cs K = true) (k : Nat) (x : Str) (hx : (cs.map (·.1))[k]? = some x) :
    ∃ u v, mg x = some u ∧ RelV v u ∧ ∀ H m, Rep K H m ((cs.map (·.2)).getD k .non) v := by
  rw [List.getElem?_map] at hx
  obtain ⟨q, e1, e2⟩ := Option.map_eq_some_iff.mp hx
  subst e2
  have := List.all_eq_true.mp c q (List.mem_of_getElem? e1)
  split at this
  · rename_i u e
    obtain ⟨v, r, p⟩ := datB_ok this
    refine ⟨u, v, PySem.W.mg_of X G e, r, fun H m => ?_⟩
    rw [List.getD_eq_getElem?_getD, List.getElem?_map, e1]
    exact p H m
  · cases this
/-- a call with keywords of a def that has defaults, no keyword-only parameters -/
theorem kbn_of {K : PySem.W.Frag} {x qual : Str} {params : Arguments} {body : List Stmt} {scope : Scope} {dvs : List V} {f : Addr} {fd : FuncData} {ps : List Str} (F : FunD K x qual params body scope dvs [] f fd) (n : Nat) (ks : List Str)
    (g : List Value → List Value → List Value) (gV : List V → List V → List V) (hd : dvs ≠ []) (hrel : ∀ {vs : List V} {us : List Value} {zs : List V} {ws : List Value}, Vals vs us → Vals zs ws → Vals (gV vs zs) (g us ws))
    (h : ∀ (T : Addr) (kV doc pm : Value) (an : Option Addr) (cdv ct : Value) (us its ws : List Value), us.length = n → its.length = dvs.length → ws.length = ks.length →
      ∃ k, bindArgs (PySem.W.fnOf x qual params body scope (.ref T) kV doc pm an cdv ct) ⟨us, ks.zip ws⟩ = seqItems? (.ref T) >>= k ∧ k (some its.toArray) = pure (ps.zip (g us ws))) : KBn K fd ps n ks g gV := by
  obtain ⟨oc, od, dV, kV, doc, pm, an, cdv, ct, osl, rfl, lk, hcd, hD, hK⟩ := F.ex
  rcases hD with ⟨e, _⟩ | ⟨_, T, o, its, m, rfl, lT, oT, rT⟩
  · exact absurd e hd
  · refine ⟨fun s us ws X l1 l2 => ?_, hrel⟩
    obtain ⟨k, e1, e2⟩ := h T kV doc pm an cdv ct us its ws l1 rT.length.symm l2
    refine BindsTo.of_looks fun M => ?_
    rw [e1]
    exact looks_items X lT oT (.of_pure e2)
/-- .. of one that has none -/
theorem kbn_of0 {K : PySem.W.Frag} {x qual : Str} {params : Arguments} {body : List Stmt} {scope : Scope} {f : Addr} {fd : FuncData} {ps : List Str} (F : FunD K x qual params body scope [] [] f fd) (n : Nat) (ks : List Str)
    (g : List Value → List Value → List Value) (gV : List V → List V → List V) (hrel : ∀ {vs : List V} {us : List Value} {zs : List V} {ws : List Value}, Vals vs us → Vals zs ws → Vals (gV vs zs) (g us ws))
    (h : ∀ (kV doc pm : Value) (an : Option Addr) (cdv ct : Value) (us ws : List Value), us.length = n → ws.length = ks.length → bindArgs (PySem.W.fnOf x qual params body scope .none kV doc pm an cdv ct) ⟨us, ks.zip ws⟩ = pure (ps.zip (g us ws))) : KBn K fd ps n ks g gV := by
  obtain ⟨oc, od, dV, kV, doc, pm, an, cdv, ct, osl, rfl, lk, hcd, hD, hK⟩ := F.ex
  rcases hD with ⟨_, rfl⟩ | ⟨e, _⟩
  · exact ⟨fun s us ws X l1 l2 => .of_eq (h kV doc pm an cdv ct us ws l1 l2), hrel⟩
  · exact absurd rfl e
theorem vals_nil {ds : List Value} (h : Vals [] ds) : ds = [] := by cases h; rfl
theorem pat_kw {K : PySem.W.Frag} {fd : FuncData} {ps ks : List Str} {n : Nat} (hk : ks ≠ []) (h : KBn K fd ps n ks (fun us ws => us ++ ws) (fun vs zs => vs ++ zs)) : PatOk K fd ps n ks id :=
  .inr ⟨hk, _, _, h, fun H m xs zs vs ws _ _ r q => r.app q⟩
/-! .. with the keywords in another order: ix says where each parameter stands among what was written -/
theorem vals_getD {xs : List V} {us : List Value} (r : Vals xs us) : ∀ i : Nat, RelV (xs.getD i .non) (us.getD i .none) := by
  induction r with
  | nil => intro i; exact rfl
  | cons h r ih =>
    intro i
    cases i with
    | zero => exact h
    | succ i => exact ih i
theorem vals_pick (ix : List Nat) {xs : List V} {us : List Value} (r : Vals xs us) : Vals (ix.map fun i => xs.getD i .non) (ix.map fun i => us.getD i .none) := by
  induction ix with
  | nil => exact .nil
  | cons i ix ih => exact .cons (vals_getD r i) ih
theorem repL_pick {K : PySem.W.Frag} {H : Hp} {m : List Addr} (ix : List Nat) {xs : List D} {vs : List V} (r : RepL K H m xs vs) : RepL K H m (ix.map fun i => xs.getD i .non) (ix.map fun i => vs.getD i .non) := by
  have g : ∀ i : Nat, Rep K H m (xs.getD i .non) (vs.getD i .non) := by
    intro i
    rw [List.getD_eq_getElem?_getD, List.getD_eq_getElem?_getD]
    cases q : xs[i]? with
    | some d =>
      obtain ⟨v, e, p⟩ := r.get q
      rw [e]; exact p
    | none =>
      have l := r.len
      rw [List.getElem?_eq_none (by have := List.getElem?_eq_none_iff.mp q; omega)]
      exact .non
  induction ix with
  | nil => exact .nil
  | cons i ix ih => exact .cons (g i) ih
theorem pat_perm {K : PySem.W.Frag} {fd : FuncData} {ps ks : List Str} {n : Nat} (ix : List Nat) (hk : ks ≠ []) (h : KBn K fd ps n ks (fun us ws => ix.map fun i => (us ++ ws).getD i .none) (fun vs zs => ix.map fun i => (vs ++ zs).getD i .non)) : PatOk K fd ps n ks (fun xs => ix.map fun i => xs.getD i .non) :=
  .inr ⟨hk, _, _, h, fun H m xs zs vs ws _ _ r q => repL_pick ix (r.app q)⟩
theorem pat_dfl {K : PySem.W.Frag} {fd : FuncData} {ps : List Str} {n : Nat} {dvs : List V} {dd : List D} (h : ∃ ds, Vals dvs ds ∧ Binds K fd ps ds) (hd : ∀ H m, RepL K H m dd dvs) : PatOk K fd ps n [] (fun xs => xs ++ dd) := by
  obtain ⟨ds, r, b⟩ := h
  exact .inl ⟨rfl, ds, dvs, b, r, fun H m xs vs _ q => q.app (hd H m)⟩
end Fq

set_option maxHeartbeats 4000000
/-! Fq: fractions as data, their sizes. -/
namespace Fq
open PySem

/-- a fraction in lowest terms -/
def frR (r : Rat) : D := .tup [.int r.num, .int r.den]
/-- both parts of a fraction are below 2 ^ n -/
def Sz (n : Nat) (r : Rat) : Prop := r.num.natAbs < 2 ^ n ∧ r.den < 2 ^ n
theorem Sz.mono {n m : Nat} {r : Rat} (h : Sz n r) (l : n ≤ m) : Sz m r :=
  have := Nat.pow_le_pow_right (show 0 < 2 by decide) l
  ⟨Nat.lt_of_lt_of_le h.1 this, Nat.lt_of_lt_of_le h.2 this⟩
theorem num_div_le (a : Int) {b : Nat} (hb : b ≠ 0) : (mkRat a b).num.natAbs ≤ a.natAbs ∧ (mkRat a b).den ≤ b := by
  rw [Rat.num_mkRat, Rat.den_mkRat, if_neg hb, if_neg hb]
  refine ⟨?_, Nat.div_le_self _ _⟩
  have hd : ((b.gcd a.natAbs : Nat) : Int) ∣ a := by
    rw [← Int.dvd_natAbs, Int.ofNat_dvd]
    exact Nat.gcd_dvd_right _ _
  rw [Int.natAbs_ediv_of_dvd hd]
  exact Nat.div_le_self _ _
theorem Sz.mk {a : Int} {b n : Nat} (hb : b ≠ 0) (h1 : a.natAbs < 2 ^ n) (h2 : b < 2 ^ n) : Sz n (mkRat a b) :=
  have := num_div_le a hb
  ⟨Nat.lt_of_le_of_lt this.1 h1, Nat.lt_of_le_of_lt this.2 h2⟩
theorem two_mul_pow (n : Nat) : 2 ^ (n + 1) = 2 ^ n + 2 ^ n := by rw [Nat.pow_succ]; omega
theorem mul_pow_lt {a b n m : Nat} (h1 : a < 2 ^ n) (h2 : b < 2 ^ m) : a * b < 2 ^ (n + m) := by
  rw [Nat.pow_add]
  exact Nat.mul_lt_mul'' h1 h2
theorem Sz.add {a b : Rat} {n m : Nat} (ha : Sz n a) (hb : Sz m b) : Sz (n + m + 1) (a + b) := by
  rw [Rat.add_def']
  have e1 : (a.num * b.den).natAbs < 2 ^ (n + m) := by rw [Int.natAbs_mul]; exact mul_pow_lt ha.1 hb.2
  have e2 : (b.num * a.den).natAbs < 2 ^ (n + m) := by rw [Int.natAbs_mul, Nat.add_comm n m]; exact mul_pow_lt hb.1 ha.2
  have e3 : a.den * b.den < 2 ^ (n + m) := mul_pow_lt ha.2 hb.2
  have e4 := two_mul_pow (n + m)
  refine Sz.mk (Nat.mul_ne_zero a.den_nz b.den_nz) ?_ ?_
  · have := Int.natAbs_add_le (a.num * b.den) (b.num * a.den)
    omega
  · omega
theorem Sz.neg {a : Rat} {n : Nat} (ha : Sz n a) : Sz n (-a) := ⟨by rw [Rat.neg_num, Int.natAbs_neg]; exact ha.1, ha.2⟩
theorem Sz.sub {a b : Rat} {n m : Nat} (ha : Sz n a) (hb : Sz m b) : Sz (n + m + 1) (a - b) := by
  rw [Rat.sub_eq_add_neg]
  exact ha.add hb.neg
theorem Sz.mul {a b : Rat} {n m : Nat} (ha : Sz n a) (hb : Sz m b) : Sz (n + m) (a * b) := by
  rw [Rat.mul_def']
  refine Sz.mk (Nat.mul_ne_zero a.den_nz b.den_nz) ?_ (mul_pow_lt ha.2 hb.2)
  rw [Int.natAbs_mul]
  exact mul_pow_lt ha.1 hb.1
theorem Sz.inv {a : Rat} {n : Nat} (ha : Sz n a) : Sz n a⁻¹ := by
  refine ⟨?_, ?_⟩
  · rw [Rat.num_inv, Int.natAbs_mul]
    have : a.num.sign.natAbs ≤ 1 := by
      rcases Int.lt_trichotomy a.num 0 with h | h | h
      · rw [Int.sign_eq_neg_one_of_neg h]; decide
      · rw [h]; decide
      · rw [Int.sign_eq_one_of_pos h]; decide
    have h2 : (a.den : Int).natAbs = a.den := rfl
    rw [h2]
    exact Nat.lt_of_le_of_lt (Nat.le_trans (Nat.mul_le_mul_right _ this) (by omega)) ha.2
  · rw [Rat.den_inv]
    split
    · exact Nat.lt_of_le_of_lt (Nat.pos_of_ne_zero a.den_nz) ha.2
    · exact ha.1
theorem Sz.div {a b : Rat} {n m : Nat} (ha : Sz n a) (hb : Sz m b) : Sz (n + m) (a / b) := by
  rw [Rat.div_def]
  exact ha.mul hb.inv
theorem Sz.int {i : Int} {n : Nat} (h : i.natAbs < 2 ^ n) (hn : 0 < n) : Sz n (i : Rat) :=
  ⟨h, by rw [Rat.den_intCast]; exact Nat.lt_of_lt_of_le (by decide : 1 < 2 ^ 1) (Nat.pow_le_pow_right (by decide) hn)⟩
theorem Sz.divInt {a b : Int} {n : Nat} (h1 : a.natAbs < 2 ^ n) (h2 : b.natAbs < 2 ^ n) (hb : b ≠ 0) : Sz n (Rat.divInt a b) := by
  rcases Int.lt_trichotomy b 0 with h | h | h
  · have e : Rat.divInt a b = mkRat (-a) b.natAbs := by
      rw [← Rat.neg_divInt_neg, show -b = ((b.natAbs : Nat) : Int) by omega, Rat.divInt_ofNat]
    rw [e]
    exact Sz.mk (by omega) (by rw [Int.natAbs_neg]; exact h1) h2
  · exact absurd h hb
  · have e : Rat.divInt a b = mkRat a b.natAbs := by
      rw [show b = ((b.natAbs : Nat) : Int) by omega, Rat.divInt_ofNat]; rfl
    rw [e]
    exact Sz.mk (by omega) h1 h2
theorem log_lt {j : Nat} {n : Nat} (hn : 0 < n) (h : j < 2 ^ n) : j.log2 < n := PySem.Flt.log2_lt_of hn h
theorem mulOk_of {i j : Int} {a b : Nat} (ha : i.natAbs < 2 ^ a) (hb : j.natAbs < 2 ^ b) (h : a + b ≤ 1000000) : mulOk i j = true := by
  unfold mulOk
  simp only [Bool.or_eq_true, decide_eq_true_eq]
  rcases Nat.eq_zero_or_pos a with h0 | h0
  · subst h0
    exact .inl (.inl (Nat.lt_of_lt_of_le ha (by decide)))
  · rcases Nat.eq_zero_or_pos b with h1 | h1
    · subst h1
      exact .inl (.inr (Nat.lt_of_lt_of_le hb (by decide)))
    · have x := log_lt h0 ha
      have y := log_lt h1 hb
      exact .inr (by omega)
theorem mulOk_l {i j : Int} (h : i.natAbs < 2 ^ 64) : mulOk i j = true := by
  unfold mulOk
  simp only [Bool.or_eq_true, decide_eq_true_eq]
  exact .inl (.inl h)
theorem mulOk_r {i j : Int} (h : j.natAbs < 2 ^ 64) : mulOk i j = true := by
  unfold mulOk
  simp only [Bool.or_eq_true, decide_eq_true_eq]
  exact .inl (.inr h)
/-! ### the greatest common divisor -/
theorem gcd_turn (a b : Nat) (hb : 0 < b) : Nat.gcd b (a % b) = Nat.gcd a b := by
  rw [Nat.gcd_comm a b, Nat.gcd_rec b a, Nat.gcd_comm]
/-- lowest terms -/
theorem ratio_pos (p : Int) (q : Nat) (hq : 0 < q) : p / ((Nat.gcd p.natAbs q : Nat) : Int) = (mkRat p q).num ∧ (q : Int) / ((Nat.gcd p.natAbs q : Nat) : Int) = ((mkRat p q).den : Int) := by
  rw [Rat.num_mkRat, Rat.den_mkRat, if_neg (by omega), if_neg (by omega), Nat.gcd_comm]
  exact ⟨rfl, by rw [Int.natCast_ediv]⟩
theorem frac_ok (r : Rat) : Nat.gcd r.num.natAbs r.den = 1 := r.reduced
theorem lt_frR (a b : Rat) : decide (a.num * (b.den : Int) < b.num * (a.den : Int)) = decide (a < b) := by
  rw [decide_eq_decide, Rat.lt_iff]
theorem add_frR (a b : Rat) : Rat.divInt (a.num * b.den + b.num * a.den) ((a.den : Int) * b.den) = a + b := by
  rw [Rat.add_def', ← Rat.divInt_ofNat]; rfl
theorem sub_frR (a b : Rat) : Rat.divInt (a.num * b.den - b.num * a.den) ((a.den : Int) * b.den) = a - b := by
  rw [Rat.sub_def', ← Rat.divInt_ofNat]; rfl
theorem mul_frR (a b : Rat) : Rat.divInt (a.num * b.num) ((a.den : Int) * b.den) = a * b := by
  rw [Rat.mul_def', ← Rat.divInt_ofNat]; rfl
theorem div_frR (a b : Rat) : Rat.divInt (a.num * b.den) ((a.den : Int) * b.num) = a / b := by
  rw [Rat.div_def, Rat.inv_def]
  conv => rhs; rw [← Rat.num_divInt_den a]
  rw [Rat.divInt_mul_divInt]
theorem fr_inj {a b : Rat} : frR a = frR b ↔ a = b := by
  constructor
  · intro h
    unfold frR at h
    injection h with h
    injection h with h1 h2
    injection h2 with h2 _
    injection h1 with h1
    injection h2 with h2
    exact Rat.ext h1 (by omega)
  · rintro rfl; rfl
end Fq

set_option maxHeartbeats 4000000
/-! Fq: facts for reading off what a text computes. -/
namespace Fq
open PySem L2
theorem eqD_int (h : MH) (i j : Int) : eqD h (.int i) (.int j) = some (decide (i = j)) := by
  show some (PyData.eqv (.int i) (.int j)) = _
  rw [PyData.eqv]
  rfl
theorem eqD_bl (h : MH) (i j : Bool) : eqD h (.bl i) (.bl j) = some (i == j) := by
  show some (PyData.eqv (.bool i) (.bool j)) = _
  rw [PyData.eqv]
theorem eqD_fr (h : MH) (a b : Rat) : eqD h (frR a) (frR b) = some (decide (a = b)) := by
  show some (PyData.eqv (.tuple [.int a.num, .int a.den]) (.tuple [.int b.num, .int b.den])) = _
  congr 1
  simp only [PyData.eqv, PyData.eqvAll, Bool.and_true]
  by_cases e : a = b
  · subst e; simp
  · simp only [e, decide_false]
    cases e1 : (a.num == b.num) with
    | false => rfl
    | true =>
      cases e2 : ((a.den : Int) == (b.den : Int)) with
      | false => rfl
      | true => exact absurd (Rat.ext (by simpa using e1) (by have : (a.den : Int) = b.den := by simpa using e2
                                                              omega)) e
theorem eqD_str (h : MH) (a b : Str) (ha : PySem.PyData.strOk a = true) (hb : PySem.PyData.strOk b = true) : eqD h (.str a) (.str b) = some (a == b) := by
  have ea : SeqAt.shaped (.str a) = true := by
    unfold SeqAt.shaped
    rw [PyData.canLay0, ha]
    rfl
  have eb : SeqAt.shaped (.str b) = true := by
    unfold SeqAt.shaped
    rw [PyData.canLay0, hb]
    rfl
  show (if (SeqAt.shaped (.str a) && SeqAt.shaped (.str b)) = true then some (PyData.eqv (.str a) (.str b)) else none) = _
  rw [ea, eb, PyData.eqv]
  rfl
/-! ### operators -/
theorem b_add (i j : Int) (h : MH) : binD .add (.int i) (.int j) h = some (.int (i + j), h) := rfl
theorem b_sub (i j : Int) (h : MH) : binD .sub (.int i) (.int j) h = some (.int (i - j), h) := rfl
theorem b_mul {i j : Int} (h : MH) (hm : mulOk i j = true) : binD .mul (.int i) (.int j) h = some (.int (i * j), h) := by
  show (if mulOk i j = true then _ else none) = _
  rw [if_pos hm]
theorem b_div {i j : Int} (h : MH) (hj : 0 < j) (hl : j.natAbs < 2 ^ 9000) : binD .fdiv (.int i) (.int j) h = some (.int (i / j), h) := by
  show (if 0 < j ∧ j.natAbs.log2 < 9000 then _ else none) = _
  rw [if_pos ⟨hj, log_lt (by decide) hl⟩]
theorem b_mod {i j : Int} (h : MH) (hj : 0 < j) : binD .mod (.int i) (.int j) h = some (.int (i % j), h) := by
  show (if 0 < j then _ else none) = _
  rw [if_pos hj]
theorem b_pow {i j : Int} (h : MH) (h1 : 0 ≤ j) (h2 : j ≤ 1000000) (h3 : i.natAbs < 2 ^ 64) : binD .pow (.int i) (.int j) h = some (.int (i ^ j.toNat), h) := by
  show (if 0 ≤ j ∧ j ≤ 1000000 ∧ i.natAbs < 2 ^ 64 then _ else none) = _
  rw [if_pos ⟨h1, h2, h3⟩]
theorem b_addl {a b : Nat} {xs ys : List D} {h : MH} (h1 : h[a]? = some xs) (h2 : h[b]? = some ys) (hl : xs.length + ys.length ≤ LIM) : binD .add (.ref a) (.ref b) h = some (.ref h.length, h ++ [xs ++ ys]) := by
  show (match h[a]?, h[b]? with
    | some xs, some ys => if xs.length + ys.length ≤ LIM then some (D.ref h.length, h ++ [xs ++ ys]) else none
    | _, _ => none) = _
  rw [h1, h2]
  exact if_pos hl
theorem u_len {x : D} {xs : List D} {h : MH} (e : itemsD h x = some xs) : biD .len [x] h = some (.int xs.length, h) := by
  show (itemsD h x).map _ = _
  rw [e]; rfl
theorem u_abs (i : Int) (h : MH) : biD .abs [.int i] h = some (.int (i.natAbs : Int), h) := by
  show some (D.int (if i < 0 then -i else i), h) = _
  congr 3
  split <;> omega
theorem u_int (i : Int) (h : MH) : biD .int [.int i] h = some (.int i, h) := rfl
theorem u_intb (b : Bool) (h : MH) : biD .int [.bl b] h = some (.int (if b then 1 else 0), h) := rfl
theorem u_max (i j : Int) (h : MH) : biD .max2 [.int i, .int j] h = some (.int (if j > i then j else i), h) := rfl
theorem u_min (i j : Int) (h : MH) : biD .min2 [.int i, .int j] h = some (.int (if j < i then j else i), h) := rfl
theorem c_lt (h : MH) (i j : Int) : cmpD .lt h (.int i) (.int j) = some (decide (i < j)) := rfl
theorem c_le (h : MH) (i j : Int) : cmpD .le h (.int i) (.int j) = some (decide (i ≤ j)) := rfl
theorem c_gt (h : MH) (i j : Int) : cmpD .gt h (.int i) (.int j) = some (decide (j < i)) := rfl
theorem c_ge (h : MH) (i j : Int) : cmpD .ge h (.int i) (.int j) = some (decide (j ≤ i)) := rfl
theorem c_eq (h : MH) (x y : D) : cmpD .eq h x y = eqD h x y := rfl
theorem c_ne (h : MH) (x y : D) : cmpD .ne h x y = (eqD h x y).map (!·) := rfl
theorem g_b (b : Bool) (h : MH) : getB (some (.bl b, h)) = some (b, h) := rfl
theorem ix_0 (h : MH) (x : D) (xs : List D) : idxD h (.tup (x :: xs)) (.int 0) = some x := by
  show atI (x :: xs) 0 = _
  unfold atI ixN
  rw [if_pos (by decide), if_pos (by simp)]
  rfl
theorem ix_1 (h : MH) (x y : D) (xs : List D) : idxD h (.tup (x :: y :: xs)) (.int 1) = some y := by
  show atI (x :: y :: xs) 1 = _
  unfold atI ixN
  rw [if_pos (by decide), if_pos (by simp; omega)]
  rfl
theorem ix_2 (h : MH) (x y z : D) (xs : List D) : idxD h (.tup (x :: y :: z :: xs)) (.int 2) = some z := by
  show atI (x :: y :: z :: xs) 2 = _
  unfold atI ixN
  rw [if_pos (by decide), if_pos (by simp; omega)]
  rfl
theorem fr_0 (h : MH) (a : Rat) : idxD h (frR a) (.int 0) = some (.int a.num) := ix_0 ..
theorem fr_1 (h : MH) (a : Rat) : idxD h (frR a) (.int 1) = some (.int a.den) := ix_1 ..
theorem ix_r {h : MH} {n : Nat} {xs : List D} (e : h[n]? = some xs) (i : Int) : idxD h (.ref n) (.int i) = atI xs i := by
  show (h[n]?).bind _ = _
  rw [e]; rfl
theorem ty_i (i : Int) : (L2.kitB (tyn (.int i)) "int").map D.bl = some (.bl true) := by rfl
theorem ob {α β : Type} (a : α) (f : α → Option β) : (some a).bind f = f a := rfl
theorem om {α β : Type} (a : α) (f : α → β) : (some a).map f = some (f a) := rfl
/-! ### the divisor's loop -/
theorem gcd_loop {f : En → MH → Option (Bool × MH)} {g : En → MH → SR} (hf : ∀ a b h, f [some (.int a), some (.int b)] h = some (decide (0 < b), h))
    (hg : ∀ a b h, 0 < b → g [some (.int a), some (.int b)] h = some (.nx, [some (.int b), some (.int (a % b))], h)) :
    ∀ (n a b : Nat) (h : MH), b < n → whlL f g n [some (.int a), some (.int b)] h = some (.nx, [some (.int (Nat.gcd a b)), some (.int 0)], h) := by
  intro n
  induction n with
  | zero => intro a b h l; omega
  | succ n ih =>
    intro a b h l
    show (f _ h).bind _ = _
    rw [hf]
    by_cases hb : 0 < b
    · rw [show decide ((0 : Int) < (b : Int)) = true from decide_eq_true (by omega)]
      show (g _ h).bind _ = _
      rw [hg _ _ _ (by omega)]
      show whlL f g n [some (.int b), some (.int ((a : Int) % (b : Int)))] h = _
      rw [← Int.natCast_emod, ih b (a % b) h (by have := Nat.mod_lt a hb; omega), gcd_turn a b hb]
    · have e : b = 0 := by omega
      subst e
      rw [Nat.gcd_zero_right]
      rfl
/-! ### a list that only a draw changes -/
def SrcH (h : MH) (s : Nat) : Prop := ∃ c m t : Int, h[s]? = some [.int c, .int m, .int t]
def Dr (s : Nat) (h h' : MH) : Prop := SrcH h' s ∧ h.length ≤ h'.length ∧ ∀ n, n < h.length → n ≠ s → h'[n]? = h[n]?
theorem SrcH.lt {h : MH} {s : Nat} (H : SrcH h s) : s < h.length := by
  obtain ⟨_, _, _, e⟩ := H
  exact (List.getElem?_eq_some_iff.mp e).1
theorem Dr.refl {s : Nat} {h : MH} (H : SrcH h s) : Dr s h h := ⟨H, Nat.le_refl _, fun _ _ _ => rfl⟩
theorem Dr.trans {s : Nat} {h h1 h2 : MH} (a : Dr s h h1) (b : Dr s h1 h2) : Dr s h h2 :=
  ⟨b.1, Nat.le_trans a.2.1 b.2.1, fun n l ne => (b.2.2 n (Nat.lt_of_lt_of_le l a.2.1) ne).trans (a.2.2 n l ne)⟩
theorem Dr.app {s : Nat} {h h1 : MH} (a : Dr s h h1) (x : List (List D)) : Dr s h (h1 ++ x) := by
  obtain ⟨⟨c, m, t, e⟩, l, k⟩ := a
  have l1 := (List.getElem?_eq_some_iff.mp e).1
  refine ⟨⟨c, m, t, by rw [List.getElem?_append_left l1]; exact e⟩, by rw [List.length_append]; omega, fun n ln ne => ?_⟩
  rw [List.getElem?_append_left (by omega)]
  exact k n ln ne
theorem Dr.keep {s n : Nat} {h h1 : MH} {xs : List D} (a : Dr s h h1) (e : h[n]? = some xs) (ne : n ≠ s) : h1[n]? = some xs :=
  (a.2.2 n (List.getElem?_eq_some_iff.mp e).1 ne).trans e
theorem get_app {h : MH} (x : List D) (r : List (List D)) : (h ++ x :: r)[h.length]? = some x := by
  rw [List.getElem?_append_right (Nat.le_refl _), Nat.sub_self]; rfl
theorem Dr.set {s : Nat} {h : MH} {c m t : Int} (l : s < h.length) : Dr s h (h.set s [.int c, .int m, .int t]) :=
  ⟨⟨c, m, t, by rw [List.getElem?_set_self l]⟩, by rw [List.length_set]; omega, fun n _ ne => List.getElem?_set_ne (fun e => ne e.symm)⟩
/-! ### loops -/
theorem for_all {src : Src} {f : D → En → MH → SR} {P : Nat → En → MH → Prop} (N : Nat) (last : ∀ σ h, P N σ h → srcAt h src N = some none)
    (step : ∀ i σ h, i < N → P i σ h → ∃ x σ' h', srcAt h src i = some (some x) ∧ f x σ h = some (.nx, σ', h') ∧ P (i + 1) σ' h') :
    ∀ (n i : Nat) (σ : En) (h : MH), i ≤ N → N < n + i → P i σ h → ∃ σ' h', forL src f n i σ h = some (.nx, σ', h') ∧ P N σ' h' := by
  intro n
  induction n with
  | zero => intro i σ h l1 l2; omega
  | succ n ih =>
    intro i σ h l1 l2 p
    by_cases e : i = N
    · subst e
      refine ⟨σ, h, ?_, p⟩
      show (srcAt h src i).bind _ = _
      rw [last σ h p]
      rfl
    · obtain ⟨x, σ', h', e1, e2, p'⟩ := step i σ h (by omega) p
      obtain ⟨σ2, h2, e3, p2⟩ := ih (i + 1) σ' h' (by omega) (by omega) p'
      refine ⟨σ2, h2, ?_, p2⟩
      show (srcAt h src i).bind _ = _
      rw [e1]
      show (f x σ h).bind _ = _
      rw [e2]
      exact e3
theorem lc_all {src : Src} {f : D → MH → Option (Option D × MH)} {P : Nat → List D → MH → Prop} (N : Nat) (last : ∀ ys h, P N ys h → srcAt h src N = some none)
    (step : ∀ i ys h, i < N → P i ys h → ∃ x y h', srcAt h src i = some (some x) ∧ f x h = some (some y, h') ∧ P (i + 1) (ys ++ [y]) h') :
    ∀ (n i : Nat) (ys : List D) (h : MH), i ≤ N → N < n + i → P i ys h → ∃ ys' h', lcL src f n i ys h = some (ys', h') ∧ P N ys' h' := by
  intro n
  induction n with
  | zero => intro i σ h l1 l2; omega
  | succ n ih =>
    intro i ys h l1 l2 p
    by_cases e : i = N
    · subst e
      refine ⟨ys, h, ?_, p⟩
      show (srcAt h src i).bind _ = _
      rw [last ys h p]
      rfl
    · obtain ⟨x, y, h', e1, e2, p'⟩ := step i ys h (by omega) p
      obtain ⟨y2, h2, e3, p2⟩ := ih (i + 1) (ys ++ [y]) h' (by omega) (by omega) p'
      refine ⟨y2, h2, ?_, p2⟩
      show (srcAt h src i).bind _ = _
      rw [e1]
      show (f x h).bind _ = _
      rw [e2]
      exact e3
theorem for_of {src : Src} {f : D → En → MH → SR} {n i : Nat} {σ : En} {h : MH} {X : SR} (e : forL src f n i σ h = X) (P : Nat → En → MH → Prop) (N : Nat) (p : P i σ h) (l1 : i ≤ N) (l2 : N < n + i)
    (last : ∀ σ h, P N σ h → srcAt h src N = some none)
    (step : ∀ i σ h, i < N → P i σ h → ∃ x σ' h', srcAt h src i = some (some x) ∧ f x σ h = some (.nx, σ', h') ∧ P (i + 1) σ' h') : ∃ σ' h', X = some (.nx, σ', h') ∧ P N σ' h' := by
  subst e
  exact for_all N last step n i σ h l1 l2 p
theorem lc_of {src : Src} {f : D → MH → Option (Option D × MH)} {n i : Nat} {ys : List D} {h : MH} {X : Option (List D × MH)} (e : lcL src f n i ys h = X) (P : Nat → List D → MH → Prop) (N : Nat) (p : P i ys h) (l1 : i ≤ N) (l2 : N < n + i)
    (last : ∀ ys h, P N ys h → srcAt h src N = some none)
    (step : ∀ i ys h, i < N → P i ys h → ∃ x y h', srcAt h src i = some (some x) ∧ f x h = some (some y, h') ∧ P (i + 1) (ys ++ [y]) h') : ∃ ys' h', X = some (ys', h') ∧ P N ys' h' := by
  subst e
  exact lc_all N last step n i ys h l1 l2 p
theorem lc_pure {α : Type} (em ge : α → D) {src : Src} {f : D → MH → Option (Option D × MH)} {n : Nat} {h : MH} {X : Option (List D × MH)} (e : lcL src f n 0 [] h = X) (xs : List α) (l : xs.length < n)
    (hs : ∀ i, srcAt h src i = some ((xs.map em)[i]?)) (hf : ∀ x ∈ xs, f (em x) h = some (some (ge x), h)) : X = some (xs.map ge, h) := by
  obtain ⟨ys, h', e1, e2, e3⟩ := lc_of e (fun i ys h' => h' = h ∧ ys = (xs.take i).map ge) xs.length ⟨rfl, rfl⟩ (Nat.zero_le _) (by omega)
    (fun ys h' p => by rw [p.1, hs, List.getElem?_eq_none (by rw [List.length_map]; exact Nat.le_refl _)])
    (fun i ys h' li p => by
      refine ⟨em xs[i], ge xs[i], h, ?_, ?_, rfl, ?_⟩
      · rw [p.1, hs, List.getElem?_map, List.getElem?_eq_getElem li]; rfl
      · rw [p.1]; exact hf _ (List.getElem_mem li)
      · rw [p.2, List.take_add_one, List.getElem?_eq_getElem li, List.map_append]; rfl)
  rw [e1, e2, e3, List.take_length]
/-! ### lists of fractions -/
def pf (a : Rat) : PyData := .tuple [.int a.num, .int a.den]
theorem pdIs_fr : ∀ as : List Rat, pdIs (as.map frR) = some (as.map pf)
  | [] => rfl
  | a :: r => by
    show (pdI (frR a)).bind _ = _
    rw [show pdI (frR a) = some (pf a) from rfl, ob, pdIs_fr r]
    rfl
theorem lay_fr : ∀ as : List Rat, PyData.canLayAll0 (as.map pf) = true ∧ PyData.depthAll (as.map pf) ≤ 1
  | [] => ⟨rfl, by decide⟩
  | a :: r => by
    obtain ⟨e1, e2⟩ := lay_fr r
    refine ⟨?_, ?_⟩
    · rw [List.map_cons, PyData.canLayAll0, e1]; rfl
    · rw [List.map_cons, PyData.depthAll]
      have : (pf a).depth = 1 := rfl
      omega
theorem eqv_pf (a b : Rat) : PyData.eqv (pf a) (pf b) = decide (a = b) := Option.some.inj (eqD_fr [] a b)
theorem eqv_frs : ∀ as bs : List Rat, PyData.eqvAll (as.map pf) (bs.map pf) = decide (as = bs)
  | [], [] => rfl
  | [], _ :: _ => by rw [List.map_nil, List.map_cons, PyData.eqvAll]; rfl
  | _ :: _, [] => by rw [List.map_nil, List.map_cons, PyData.eqvAll]; rfl
  | a :: r, b :: t => by
    rw [List.map_cons, List.map_cons, PyData.eqvAll, eqv_pf, eqv_frs r t]
    by_cases e : a = b
    · subst e; simp
    · simp [e]
theorem shaped_fr (as : List Rat) : SeqAt.shaped (.list (as.map pf)) = true := by
  obtain ⟨e1, e2⟩ := lay_fr as
  unfold SeqAt.shaped
  rw [PyData.canLay0, e1, PyData.depth]
  simp
  omega
theorem eqD_frs {h : MH} {n m : Nat} {as bs : List Rat} (e1 : h[n]? = some (as.map frR)) (e2 : h[m]? = some (bs.map frR)) : eqD h (.ref n) (.ref m) = some (decide (as = bs)) := by
  have p1 : pdT h (.ref n) = some (.list (as.map pf)) := by
    show (h[n]?).bind _ = _
    rw [e1, ob, pdIs_fr]; rfl
  have p2 : pdT h (.ref m) = some (.list (bs.map pf)) := by
    show (h[m]?).bind _ = _
    rw [e2, ob, pdIs_fr]; rfl
  unfold eqD
  rw [p1, p2, ob, ob, shaped_fr, shaped_fr, if_pos (show (true && true) = true from rfl), PyData.eqv, eqv_frs]
theorem num_lt0 (x : Rat) : decide (x.num < 0) = decide (x < 0) := by
  have := lt_frR x 0
  simpa using this
theorem den_lt (x : Rat) : decide ((x.den : Int) < x.num) = decide (1 < x) := by
  have := lt_frR 1 x
  simpa using this
theorem atI_nat {α : Type} {xs : List α} {i : Nat} {x : α} (e : xs[i]? = some x) : atI xs (i : Int) = some x := by
  have l := (List.getElem?_eq_some_iff.mp e).1
  unfold atI ixN
  rw [if_pos (by omega), if_pos (by omega)]
  exact e
end Fq

set_option maxHeartbeats 4000000
/-! Fq: steps, in plain numbers. -/
namespace Fq
open PySem L2
theorem mk_div (a : Int) {b : Nat} (hb : b ≠ 0) : (mkRat a b).num / ((mkRat a b).den : Int) = a / b ∧ ((mkRat a b).den = 1 ↔ a % b = 0) := by
  obtain ⟨m, m0, ea, eb⟩ := Rat.mkRat_num_den (n' := (mkRat a b).num) (d' := (mkRat a b).den) (z' := (mkRat a b).den_nz) (c := (mkRat a b).reduced) hb rfl
  have red := (mkRat a b).reduced
  have dn := (mkRat a b).den_nz
  generalize (mkRat a b).num = n at *
  generalize (mkRat a b).den = d at *
  subst ea
  subst eb
  have mp : (0 : Int) < m := by omega
  rw [Int.natCast_mul]
  refine ⟨by rw [Int.mul_comm n, Int.mul_comm (d : Int), Int.mul_ediv_mul_of_pos _ _ mp], ?_⟩
  rw [Int.mul_comm n, Int.mul_comm (d : Int), Int.mul_emod_mul_of_pos _ _ mp]
  constructor
  · rintro rfl
    simp
  · intro h
    have h0 : n % (d : Int) = 0 := by
      rcases Int.mul_eq_zero.mp h with z | z
      · omega
      · exact z
    have dv : d ∣ n.natAbs := Int.ofNat_dvd.mp (Int.dvd_natAbs.mpr (Int.dvd_of_emod_eq_zero h0))
    have := Nat.dvd_gcd dv (Nat.dvd_refl d)
    rw [red] at this
    exact Nat.dvd_one.mp this
/-- the whole part -/
def flo (y : Rat) : Int := y.num / y.den
theorem den_hit (y : Rat) : y.den = 1 ↔ y.num % y.den = 0 := by
  have := (mk_div y.num y.den_nz).2
  rwa [Rat.mkRat_self] at this
theorem times_int (x : Rat) (n : Int) : x * (n : Rat) = mkRat (x.num * n) x.den := by
  rw [Rat.mul_def', Rat.num_intCast, Rat.den_intCast, Nat.mul_one]
theorem flo_times (x : Rat) (n : Int) : flo (x * (n : Rat)) = x.num * n / x.den := by
  unfold flo
  rw [times_int, (mk_div _ x.den_nz).1]
theorem hit_times (x : Rat) (n : Int) : (x * (n : Rat)).den = 1 ↔ x.num * n % x.den = 0 := by
  rw [times_int, (mk_div _ x.den_nz).2]
theorem int_sub (n : Int) (y : Rat) : (n : Rat) - y = mkRat (n * y.den - y.num) y.den := by
  rw [Rat.sub_def', Rat.num_intCast, Rat.den_intCast, Nat.one_mul, Int.natCast_one, Int.mul_one]
theorem hit_sub (n : Int) (y : Rat) : ((n : Rat) - y).den = 1 ↔ y.den = 1 := by
  rw [int_sub, (mk_div _ y.den_nz).2, den_hit]
  rw [Int.sub_emod, Int.mul_emod_left, Int.zero_sub]
  have hp : (0 : Int) < y.den := by have := y.den_pos; omega
  constructor
  · intro h
    have := Int.emod_nonneg y.num (show (y.den : Int) ≠ 0 by omega)
    have := Int.emod_lt_of_pos y.num hp
    have dv := Int.dvd_of_emod_eq_zero h
    rw [Int.dvd_neg] at dv
    rw [← Int.emod_emod_of_dvd y.num (Int.dvd_refl _)]
    exact Int.emod_eq_zero_of_dvd dv
  · intro h
    rw [h]; rfl
theorem flo_sub (n : Int) (y : Rat) : flo ((n : Rat) - y) = n - flo y - (if y.den = 1 then 0 else 1) := by
  unfold flo
  rw [int_sub, (mk_div _ y.den_nz).1]
  have hp : (0 : Int) < y.den := by have := y.den_pos; omega
  have q := Int.mul_ediv_add_emod y.num y.den
  have r0 := Int.emod_nonneg y.num (show (y.den : Int) ≠ 0 by omega)
  have r1 := Int.emod_lt_of_pos y.num hp
  have hit := den_hit y
  by_cases h : y.den = 1
  · rw [if_pos h, h]
    simp
  · rw [if_neg h]
    have rn : y.num % y.den ≠ 0 := fun z => h (hit.mpr z)
    refine ((Int.ediv_emod_unique (r := y.den - y.num % y.den) hp).mpr ⟨?_, by omega, by omega⟩).1
    rw [Int.mul_sub, Int.mul_sub, Int.mul_comm n]
    omega
/-! ### where the steps jump -/
inductive Wq where
  | st | en | no | bo
def wq : Wq → Str
  | .st => "start"
  | .en => "end"
  | .no => "none"
  | .bo => "both"
def wS : Wq → Bool
  | .st => true
  | .bo => true
  | _ => false
def wB : Wq → Bool
  | .bo => true
  | _ => false
def wN : Wq → Bool
  | .no => true
  | _ => false
def b01 (b : Bool) : Int := if b then 1 else 0
theorem in_SB (w : Wq) (h : MH) : cmpD .isin h (.str (wq w)) (.tup [.str "start", .str "both"]) = some (wS w) := by
  show inP (.str (wq w)) (.tuple [.str "start", .str "both"]) = _
  cases w <;> decide +kernel
theorem in_W (w : Wq) (h : MH) : cmpD .isin h (.str (wq w)) (.tup [.str "start", .str "end", .str "none", .str "both"]) = some true := by
  show inP (.str (wq w)) (.tuple [.str "start", .str "end", .str "none", .str "both"]) = _
  cases w <;> decide +kernel
theorem eq_bo (w : Wq) (h : MH) : eqD h (.str (wq w)) (.str "both") = some (wB w) := by
  rw [eqD_str h _ _ (by cases w <;> decide +kernel) (by decide +kernel)]
  cases w <;> exact congrArg some (by decide +kernel)
theorem eq_no (w : Wq) (h : MH) : eqD h (.str (wq w)) (.str "none") = some (wN w) := by
  rw [eqD_str h _ _ (by cases w <;> decide +kernel) (by decide +kernel)]
  cases w <;> exact congrArg some (by decide +kernel)
/-- the steps done, ahead of the bounds -/
def st2 (n : Int) (w : Wq) (y : Rat) (e : Bool) : Int := flo y + b01 (wS w) - b01 (e && decide (y.den = 1))
def jmp (n : Int) (w : Wq) : Int := n + b01 (wB w) - b01 (wN w)
def st3 (n : Int) (w : Wq) (x : Rat) (e : Bool) : Int := if x < 0 then st2 n w (x * n) e else max 0 (st2 n w (x * n) e)
def st4 (n : Int) (w : Wq) (x : Rat) (e : Bool) : Int := if 1 < x then st3 n w x e else min (jmp n w) (st3 n w x e)
def stp (n : Int) (w : Wq) (x : Rat) (e : Bool) : Rat := Rat.divInt (st4 n w x e) (jmp n w)
theorem jmp_pos {n : Int} {w : Wq} (h : 1 + b01 (wN w) ≤ n) : 1 ≤ jmp n w := by
  unfold jmp
  cases w <;> simp [wB, wN, b01] at * <;> omega
def wT : Wq → Wq
  | .st => .en
  | .en => .st
  | w => w
theorem turn_sum (n : Int) (w : Wq) (y : Rat) (e : Bool) : st2 n w y e + st2 n (wT w) ((n : Rat) - y) (!e) = jmp n w := by
  unfold st2
  rw [flo_sub, decide_eq_decide.mpr (hit_sub n y)]
  by_cases h : y.den = 1
  · rw [if_pos h, decide_eq_true h]
    cases w <;> cases e <;> simp [jmp, wS, wB, wN, wT, b01] <;> omega
  · rw [if_neg h, decide_eq_false h]
    cases w <;> cases e <;> simp [jmp, wS, wB, wN, wT, b01] <;> omega
theorem jmp_turn (n : Int) (w : Wq) : jmp n (wT w) = jmp n w := by cases w <;> rfl
theorem divInt_one {j : Int} (h : j ≠ 0) : Rat.divInt j j = 1 := by
  rw [Rat.divInt_eq_div]
  have : (j : Rat) ≠ 0 := by exact_mod_cast h
  grind
theorem divInt_sub' (a b j : Int) (h : j ≠ 0) : Rat.divInt a j - Rat.divInt b j = Rat.divInt (a - b) j := by
  rw [Rat.divInt_eq_div, Rat.divInt_eq_div, Rat.divInt_eq_div, Rat.intCast_sub]
  have : (j : Rat) ≠ 0 := by exact_mod_cast h
  grind
theorem one_sub (a j : Int) (h : j ≠ 0) : 1 - Rat.divInt a j = Rat.divInt (j - a) j := by rw [← divInt_sub' _ _ _ h, divInt_one h]
theorem stp_turn {n : Int} {w : Wq} {x : Rat} (e : Bool) (hn : 1 + b01 (wN w) ≤ n) (h0 : 0 ≤ x) (h1 : x ≤ 1) : 1 - stp n (wT w) (1 - x) (!e) = stp n w x e := by
  have jp := jmp_pos hn
  have jn : jmp n w ≠ 0 := by omega
  unfold stp
  rw [jmp_turn, one_sub _ _ jn]
  congr 1
  unfold st4 st3
  have a1 : ¬ x < 0 := by grind
  have a2 : ¬ 1 < x := by grind
  have a3 : ¬ 1 - x < 0 := by grind
  have a4 : ¬ 1 < 1 - x := by grind
  rw [if_neg a1, if_neg a2, if_neg a3, if_neg a4, jmp_turn]
  have t := turn_sum n w (x * n) e
  have ey : (n : Rat) - x * n = (1 - x) * n := by grind
  rw [ey] at t
  generalize st2 n w (x * n) e = p at *
  generalize st2 n (wT w) ((1 - x) * n) (!e) = q at *
  omega
theorem stp_in {n : Int} {w : Wq} {x : Rat} (e : Bool) (hn : 1 + b01 (wN w) ≤ n) (h0 : 0 ≤ x) (h1 : x ≤ 1) : 0 ≤ stp n w x e ∧ stp n w x e ≤ 1 := by
  have jp := jmp_pos hn
  have jn : jmp n w ≠ 0 := by omega
  have a1 : ¬ x < 0 := by grind
  have a2 : ¬ 1 < x := by grind
  have b : 0 ≤ st4 n w x e ∧ st4 n w x e ≤ jmp n w := by
    unfold st4 st3
    rw [if_neg a1, if_neg a2]
    omega
  unfold stp
  refine ⟨Rat.divInt_nonneg b.1 (by omega), ?_⟩
  have : 0 ≤ Rat.divInt (jmp n w - st4 n w x e) (jmp n w) := Rat.divInt_nonneg (by omega) (by omega)
  rw [← divInt_sub' _ _ _ jn, divInt_one jn] at this
  grind
theorem flo_le (y : Rat) : (flo y).natAbs ≤ y.num.natAbs + 1 := by
  unfold flo
  have hp : (0 : Int) < y.den := by have := y.den_pos; omega
  have q := Int.mul_ediv_add_emod y.num y.den
  rcases Int.le_total 0 y.num with h | h
  · have a := Int.ediv_nonneg h (Int.le_of_lt hp)
    have b := Int.ediv_le_self y.den h
    omega
  · have b : y.num ≤ y.num / y.den := by
      refine (Int.le_ediv_iff_mul_le hp).mpr ?_
      have := Int.mul_le_mul_of_nonpos_left h (show (1 : Int) ≤ y.den by omega)
      omega
    have c : ¬ 1 ≤ y.num / y.den := fun z => by have := (Int.le_ediv_iff_mul_le hp).mp z; omega
    omega
theorem Sz_stp {n : Int} {w : Wq} {x : Rat} {k m : Nat} (e : Bool) (hn : 1 + b01 (wN w) ≤ n) (hx : Sz k x) (hm : n.natAbs < 2 ^ m) (hm0 : 0 < m) : Sz (k + m + 4) (stp n w x e) := by
  have jp := jmp_pos hn
  have sy : Sz (k + m) (x * (n : Rat)) := hx.mul (Sz.int hm hm0)
  have fl := flo_le (x * (n : Rat))
  have pw : 2 ^ (k + m + 4) = 16 * 2 ^ (k + m) := by rw [Nat.pow_add]; omega
  have pm : 2 ^ m ≤ 2 ^ (k + m) := Nat.pow_le_pow_right (by decide) (by omega)
  have p1 : 1 ≤ 2 ^ (k + m) := Nat.one_le_two_pow
  have jb : (jmp n w).natAbs ≤ n.natAbs + 1 := by unfold jmp b01; cases w <;> simp [wB, wN] <;> omega
  have s2 : (st2 n w (x * n) e).natAbs ≤ (flo (x * (n : Rat))).natAbs + 2 := by
    unfold st2 b01
    split <;> split <;> omega
  have s1 := sy.1
  have s4 : (st4 n w x e).natAbs ≤ (st2 n w (x * n) e).natAbs + (jmp n w).natAbs := by
    unfold st4 st3
    split <;> split <;> omega
  exact Sz.divInt (by omega) (by omega) (by omega)
/-! ### repr of fractions -/
theorem strOk_of (s : String) : PySem.PyData.strOk (Str.ofString s) = true := by
  rw [Str.ofString_eq_toList]
  unfold PySem.PyData.strOk
  rw [Array.all_eq_true]
  intro i hi
  simp only [List.getElem_toArray, List.getElem_map, decide_eq_true_eq]
  have v := (s.toList[i]'(by simpa using hi)).valid
  rcases v with v | v
  · have : (s.toList[i]'(by simpa using hi)).toNat < 0xd800 := v
    omega
  · exact v.2
theorem strOk_app {a b : Str} (ha : PySem.PyData.strOk a = true) (hb : PySem.PyData.strOk b = true) : PySem.PyData.strOk (a ++ b) = true := by
  show (a.cps ++ b.cps).all _ = true
  rw [Array.all_append, Bool.and_eq_true]
  exact ⟨ha, hb⟩
theorem strOk_join {sep : Str} (hs : PySem.PyData.strOk sep = true) : ∀ {ts : List Str}, (∀ t ∈ ts, PySem.PyData.strOk t = true) → PySem.PyData.strOk (Str.join sep ts) = true
  | [], _ => by show PySem.PyData.strOk Str.empty = true; decide +kernel
  | [x], h => h x (by simp)
  | x :: y :: r, h => strOk_app (strOk_app (h x (by simp)) hs) (strOk_join hs fun t m => h t (List.mem_cons_of_mem _ m))
theorem strOk_tuple {ts : List Str} (h : ∀ t ∈ ts, PySem.PyData.strOk t = true) : PySem.PyData.strOk (tupleText ts) = true := by
  unfold tupleText
  exact strOk_app (strOk_app (strOk_of _) (strOk_join (strOk_of _) h)) (by split <;> exact strOk_of _)
theorem int_shown (i : Int) (h : i.natAbs < 2 ^ 1900) : PyData.showable (.int i) = true ∧ (PyData.shown (.int i)).length ≤ 1921 ∧ PySem.PyData.strOk (PyData.shown (.int i)) = true := by
  have l : i.natAbs.log2 < 1920 := Nat.lt_of_lt_of_le (log_lt (by decide) h) (by decide)
  refine ⟨decide_eq_true l, ?_, strOk_of _⟩
  show (Str.ofString (toString i)).length ≤ 1921
  rw [PySem.ofString_length]
  exact PySem.int_text_length_le (k := 1920) (by decide) l
def shw (a : Rat) : Str := (pf a).shown
theorem fr_shown (a : Rat) (h : Sz 1900 a) : shows (pf a) = true ∧ (shw a).length ≤ 4000 ∧ PySem.PyData.strOk (shw a) = true := by
  obtain ⟨a1, a2, a3⟩ := int_shown a.num h.1
  obtain ⟨b1, b2, b3⟩ := int_shown (a.den : Int) h.2
  have len : (shw a).length ≤ 4000 := by
    have := tupleText_len_le [PyData.shown (.int a.num), PyData.shown (.int a.den)]
    simp only [List.map_cons, List.map_nil, List.sum_cons, List.sum_nil, List.length_cons, List.length_nil] at this
    show (tupleText [PyData.shown (.int a.num), PyData.shown (.int a.den)]).length ≤ 4000
    omega
  refine ⟨?_, len, ?_⟩
  · unfold shows
    have s : (pf a).showable = true := by
      show PyData.showable (.tuple [.int a.num, .int a.den]) = true
      simp only [PyData.showable, PyData.showableAll] at a1 b1 ⊢
      rw [a1, b1]; rfl
    have dp : (pf a).depth ≤ 60 := by
      show (PyData.tuple [.int a.num, .int a.den]).depth ≤ 60
      simp [PyData.depth, PyData.depthAll]
    have ln : (pf a).shown.length ≤ LIM := Nat.le_trans len (by decide)
    show (true && (pf a).showable && !(pf a).hasDict && decide ((pf a).depth ≤ 60) && decide ((pf a).shown.length ≤ LIM)) = true
    rw [s, show (pf a).hasDict = false from rfl, decide_eq_true dp, decide_eq_true ln]
    rfl
  · exact strOk_tuple fun t m => by
      have m : t = PyData.shown (.int a.num) ∨ t = PyData.shown (.int a.den) := by simpa [PyData.shownAll] using m
      rcases m with rfl | rfl
      · exact a3
      · exact b3
theorem u_repr {a : Rat} (h : MH) (s : Sz 1900 a) : biD .repr [frR a] h = some (.str (shw a), h) := by
  have e : biD .repr [frR a] h = (pdT h (frR a)).bind fun d => if shows d = true then some (.str d.shown, h) else none := rfl
  rw [e, show pdT h (frR a) = some (pf a) from rfl, ob, if_pos (fr_shown a s).1]
  rfl
theorem eq_shw {a : Rat} (h : MH) (s : Sz 1900 a) : eqD h (.str (shw a)) (.str (shw a)) = some true := by
  rw [eqD_str h _ _ (fr_shown a s).2.2 (fr_shown a s).2.2]
  simp
end Fq

set_option maxHeartbeats 4000000
/-! Fq: fractions and the endless. -/
namespace Fq
open PySem L2
inductive EQ where
  | fin (r : Rat) | inf
deriving DecidableEq
def eD : EQ → D
  | .fin r => frR r
  | .inf => .str "endless"
def eP : EQ → PyData
  | .fin r => pf r
  | .inf => .str "endless"
def SzE (n : Nat) : EQ → Prop
  | .fin r => Sz n r
  | .inf => True
theorem SzE.mono {n m : Nat} {a : EQ} (h : SzE n a) (l : n ≤ m) : SzE m a := by
  cases a with
  | fin r => exact Sz.mono h l
  | inf => trivial
def elt : EQ → EQ → Bool
  | .inf, _ => false
  | .fin _, .inf => true
  | .fin a, .fin b => decide (a < b)
def eadd : EQ → EQ → EQ
  | .fin a, .fin b => .fin (a + b)
  | _, _ => .inf
def emul (a b : EQ) : EQ := if a = .fin 0 ∨ b = .fin 0 then .fin 0 else match a, b with
  | .fin x, .fin y => .fin (x * y)
  | _, _ => .inf
def emax (a b : EQ) : EQ := if elt a b = true then b else a
def emin (a b : EQ) : EQ := if elt a b = true then a else b
theorem SzE.add {a b : EQ} {n m : Nat} (ha : SzE n a) (hb : SzE m b) : SzE (n + m + 1) (eadd a b) := by
  cases a <;> cases b <;> first | exact Sz.add ha hb | trivial
theorem SzE.mul {a b : EQ} {n m : Nat} (ha : SzE n a) (hb : SzE m b) (hn : 0 < n + m) : SzE (n + m) (emul a b) := by
  unfold emul
  split
  · exact ⟨by show (0 : Nat) < _; exact Nat.two_pow_pos _, Nat.one_lt_two_pow (by omega)⟩
  · cases a <;> cases b <;> first | exact Sz.mul ha hb | trivial
theorem SzE.max {a b : EQ} {n : Nat} (ha : SzE n a) (hb : SzE n b) : SzE n (emax a b) := by
  unfold emax; split <;> assumption
theorem SzE.min {a b : EQ} {n : Nat} (ha : SzE n a) (hb : SzE n b) : SzE n (emin a b) := by
  unfold emin; split <;> assumption
theorem endless_ok : PySem.PyData.strOk "endless" = true := by decide +kernel
theorem pd_e (h : MH) (a : EQ) : pdT h (eD a) = some (eP a) := by cases a <;> rfl
theorem pdI_e (a : EQ) : pdI (eD a) = some (eP a) := by cases a <;> rfl
theorem eqv_e (a b : EQ) : PyData.eqv (eP a) (eP b) = decide (a = b) := by
  cases a <;> cases b
  · rename_i x y
    show PyData.eqv (pf x) (pf y) = _
    rw [eqv_pf]
    simp
  · show PyData.eqv (.tuple _) (.str _) = _
    simp [PyData.eqv]
  · show PyData.eqv (.str _) (.tuple _) = _
    simp [PyData.eqv]
  · show PyData.eqv (.str _) (.str _) = _
    simp [PyData.eqv]
theorem lay_e (a : EQ) : (eP a).canLay0 = true ∧ (eP a).depth ≤ 1 := by
  cases a
  · exact ⟨rfl, Nat.le_refl 1⟩
  · exact ⟨by show (PyData.str "endless").canLay0 = true; rw [PyData.canLay0]; exact endless_ok, by decide⟩
theorem shaped_e (a : EQ) : SeqAt.shaped (eP a) = true := by
  obtain ⟨l1, l2⟩ := lay_e a
  unfold SeqAt.shaped
  rw [l1, decide_eq_true (Nat.le_trans l2 (by decide))]
  rfl
theorem eqD_e (h : MH) (a b : EQ) : eqD h (eD a) (eD b) = some (decide (a = b)) := by
  unfold eqD
  rw [pd_e, pd_e, ob, ob, shaped_e, shaped_e, if_pos (show (true && true) = true from rfl), eqv_e]
theorem eP_all : ∀ as : List EQ, pdIs (as.map eD) = some (as.map eP) ∧ PyData.canLayAll0 (as.map eP) = true ∧ PyData.depthAll (as.map eP) ≤ 1
  | [] => ⟨rfl, rfl, by decide⟩
  | a :: r => by
    obtain ⟨e1, e2, e3⟩ := eP_all r
    obtain ⟨l1, l2⟩ := lay_e a
    refine ⟨?_, ?_, ?_⟩
    · show (pdI (eD a)).bind _ = _
      rw [pdI_e, ob, e1]; rfl
    · rw [List.map_cons, PyData.canLayAll0, l1, e2]; rfl
    · rw [List.map_cons, PyData.depthAll]; omega
theorem eqvs_e : ∀ as bs : List EQ, PyData.eqvAll (as.map eP) (bs.map eP) = decide (as = bs)
  | [], [] => rfl
  | [], _ :: _ => by rw [List.map_nil, List.map_cons, PyData.eqvAll]; rfl
  | _ :: _, [] => by rw [List.map_nil, List.map_cons, PyData.eqvAll]; rfl
  | a :: r, b :: t => by
    rw [List.map_cons, List.map_cons, PyData.eqvAll, eqv_e, eqvs_e r t]
    by_cases e : a = b
    · subst e; simp
    · simp [e]
theorem tup_e (h : MH) (as : List EQ) : pdT h (.tup (as.map eD)) = some (.tuple (as.map eP)) := by
  show (pdIs (as.map eD)).map _ = _
  rw [(eP_all as).1]; rfl
theorem shaped_te (as : List EQ) : SeqAt.shaped (.tuple (as.map eP)) = true := by
  obtain ⟨_, l1, l2⟩ := eP_all as
  unfold SeqAt.shaped
  rw [PyData.canLay0, l1, PyData.depth, decide_eq_true (show PyData.depthAll (as.map eP) + 1 ≤ 64 by omega)]
  rfl
theorem eqD_te (h : MH) (as bs : List EQ) : eqD h (.tup (as.map eD)) (.tup (bs.map eD)) = some (decide (as = bs)) := by
  unfold eqD
  rw [tup_e, tup_e, ob, ob, shaped_te, shaped_te, if_pos (show (true && true) = true from rfl), PyData.eqv, eqvs_e]
/-- a in (b, c) -/
theorem in_e2 (h : MH) (a b c : EQ) : cmpD .isin h (eD a) (.tup [eD b, eD c]) = some (decide (b = a) || decide (c = a)) := by
  show (pdT h (eD a)).bind (fun p => (pdT h (.tup ([b, c].map eD))).bind fun q => inP p q) = _
  rw [pd_e, ob, tup_e, ob]
  show (if (SeqAt.shaped (eP a) && SeqAt.shaped (.tuple ([b, c].map eP))) = true then some (PyData.eqv (eP b) (eP a) || (PyData.eqv (eP c) (eP a) || false)) else none) = _
  rw [shaped_e, shaped_te, if_pos (show (true && true) = true from rfl), eqv_e, eqv_e, Bool.or_false]
/-! ### repr of such tuples -/
def shT (as : List EQ) : Str := (PyData.tuple (as.map eP)).shown
theorem shown_e (a : EQ) (h : SzE 1900 a) : (eP a).showable = true ∧ (eP a).hasDict = false ∧ (eP a).shown.length ≤ 4000 ∧ PySem.PyData.strOk (eP a).shown = true := by
  cases a with
  | fin r =>
    obtain ⟨s, l, o⟩ := fr_shown r h
    unfold shows at s
    simp only [Bool.and_eq_true, Bool.not_eq_true'] at s
    exact ⟨s.1.1.1.2, s.1.1.2, l, o⟩
  | inf => exact ⟨rfl, rfl, by show (PyData.str "endless").shown.length ≤ 4000; decide +kernel, by show PySem.PyData.strOk (PyData.str "endless").shown = true; decide +kernel⟩
theorem shown_es : ∀ as : List EQ, (∀ a ∈ as, SzE 1900 a) → PyData.showableAll (as.map eP) = true ∧ PyData.hasDictAll (as.map eP) = false ∧ ((PyData.shownAll (as.map eP)).map (·.length)).sum ≤ 4000 * as.length ∧ (PyData.shownAll (as.map eP)).length = as.length ∧ ∀ t ∈ PyData.shownAll (as.map eP), PySem.PyData.strOk t = true
  | [], _ => ⟨rfl, rfl, by decide, rfl, fun t m => by cases m⟩
  | a :: r, h => by
    obtain ⟨a1, a2, a3, a4⟩ := shown_e a (h a (by simp))
    obtain ⟨b1, b2, b3, b4, b5⟩ := shown_es r fun x m => h x (List.mem_cons_of_mem _ m)
    refine ⟨?_, ?_, ?_, ?_, ?_⟩
    · rw [List.map_cons, PyData.showableAll, a1, b1]; rfl
    · rw [List.map_cons, PyData.hasDictAll, a2, b2]; rfl
    · rw [List.map_cons, PyData.shownAll, List.map_cons, List.sum_cons, List.length_cons]; omega
    · rw [List.map_cons, PyData.shownAll, List.length_cons, b4, List.length_cons]
    · intro t m
      rw [List.map_cons, PyData.shownAll] at m
      rcases List.mem_cons.mp m with rfl | m
      · exact a4
      · exact b5 t m
theorem u_reprT {as : List EQ} (h : MH) (s : ∀ a ∈ as, SzE 1900 a) (l : as.length ≤ 100) : biD .repr [.tup (as.map eD)] h = some (.str (shT as), h) ∧ eqD h (.str (shT as)) (.str (shT as)) = some true := by
  obtain ⟨b1, b2, b3, b4, b5⟩ := shown_es as s
  obtain ⟨_, _, dp⟩ := eP_all as
  have ok : PySem.PyData.strOk (shT as) = true := strOk_tuple b5
  have len : (shT as).length ≤ LIM := by
    have := tupleText_len_le (PyData.shownAll (as.map eP))
    rw [b4] at this
    show (tupleText (PyData.shownAll (as.map eP))).length ≤ 1000000
    omega
  refine ⟨?_, ?_⟩
  · have e : biD .repr [.tup (as.map eD)] h = (pdT h (.tup (as.map eD))).bind fun d => if shows d = true then some (.str d.shown, h) else none := rfl
    rw [e, tup_e, ob]
    have sh : shows (.tuple (as.map eP)) = true := by
      show (true && PyData.showable (.tuple (as.map eP)) && !PyData.hasDict (.tuple (as.map eP)) && decide ((PyData.tuple (as.map eP)).depth ≤ 60) && decide ((PyData.tuple (as.map eP)).shown.length ≤ LIM)) = true
      rw [PyData.showable, b1, PyData.hasDict, b2, PyData.depth, decide_eq_true (show PyData.depthAll (as.map eP) + 1 ≤ 60 by omega), decide_eq_true (show (PyData.tuple (as.map eP)).shown.length ≤ LIM from len)]
      rfl
    rw [if_pos sh]
    rfl
  · rw [eqD_str h _ _ ok ok]
    simp
/-! ### edges -/
/-- the three edges and the active length -/
def edg (delay behind : Rat) (act : EQ) : EQ × EQ × EQ :=
  let e := emax (.fin 0) (eadd (.fin behind) (eadd (.fin delay) act))
  (emax (.fin 0) (emin (.fin delay) e), emax (.fin 0) (emin (eadd (.fin delay) act) e), e)
theorem emax_comm (a b : EQ) : emax a b = emax b a := by
  unfold emax
  cases a <;> cases b <;> simp only [elt] <;> (try rfl)
  rename_i x y
  by_cases h : x < y
  · have : ¬ y < x := by grind
    simp [h, this]
  · by_cases h2 : y < x
    · simp [h, h2]
    · have : x = y := by grind
      subst this
      simp [h]
theorem eadd_comm (a b : EQ) : eadd a b = eadd b a := by
  cases a <;> cases b <;> simp only [eadd] <;> first | rfl | (rw [Rat.add_comm])
theorem emax_le (a b : EQ) : elt (emax a b) a = false ∧ elt (emax a b) b = false := by
  unfold emax
  cases a <;> cases b <;> simp only [elt] <;> (try simp) <;> (try (split <;> simp_all [elt])) <;> (try grind)
end Fq

set_option maxHeartbeats 4000000
/-! Fq: curves and timings, in plain terms. -/
namespace Fq
open PySem L2
inductive Cv where
  | lin (ps : List (Rat × Option Rat)) | cub (a b : Rat) | stp (n : Int) (w : Wq)
def oD : Option Rat → D
  | none => .non
  | some r => frR r
def ptD (p : Rat × Option Rat) : D := .tup [frR p.1, oD p.2]
def cvD : Cv → D
  | .lin ps => .tup [.str "linear", .tup (ps.map ptD)]
  | .cub a b => .tup [.str "cubic", frR a, frR b]
  | .stp n w => .tup [.str "steps", .int n, .str (wq w)]
def PtOk (m : Nat) (p : Rat × Option Rat) : Prop := Sz m p.1 ∧ ∀ r, p.2 = some r → Sz m r
def CvOk (m : Nat) : Cv → Prop
  | .lin ps => ps ≠ [] ∧ ps.length < 1000 ∧ ∀ p ∈ ps, PtOk m p
  | .cub a b => Sz m a ∧ Sz m b
  | .stp n w => 1 + b01 (wN w) ≤ n ∧ n.natAbs < 2 ^ 59
inductive Fw where
  | no | fo | ba | bo
def fw : Fw → Str
  | .no => "none"
  | .fo => "forwards"
  | .ba => "backwards"
  | .bo => "both"
inductive Ww where
  | no | re | al | ar
def ww : Ww → Str
  | .no => "normal"
  | .re => "reverse"
  | .al => "alternate"
  | .ar => "alternate reverse"
structure Tm where
  delay : Rat
  behind : Rat
  fill : Fw
  first : Rat
  many : EQ
  len : Option EQ
  way : Ww
  cv : Cv
def lD : Option EQ → D
  | none => .non
  | some e => eD e
def tmL (T : Tm) : List D := [frR T.delay, frR T.behind, .str (fw T.fill), frR T.first, eD T.many, lD T.len, .str (ww T.way), cvD T.cv]
def tmD (T : Tm) : D := .tup (tmL T)
def Pos : EQ → Prop
  | .fin r => 0 ≤ r
  | .inf => True
structure TmOk (m : Nat) (T : Tm) : Prop where
  delay : Sz m T.delay
  behind : Sz m T.behind
  first : Sz m T.first
  first0 : 0 ≤ T.first
  many : SzE m T.many
  many0 : Pos T.many
  len : ∀ e, T.len = some e → SzE m e ∧ Pos e
  cv : CvOk m T.cv
def lenOf (T : Tm) : EQ := (T.len).getD (.fin 0)
def actOf (T : Tm) : EQ := emul (lenOf T) T.many
def edgT (T : Tm) : EQ × EQ × EQ := edg T.delay T.behind (actOf T)
theorem lenOf_sz {m : Nat} {T : Tm} (o : TmOk m T) (hm : 0 < m) : SzE m (lenOf T) := by
  unfold lenOf
  cases e : T.len with
  | none => exact Sz.mono (show Sz 1 (0 : Rat) from ⟨by decide, by decide⟩) hm
  | some x => exact (o.len x e).1
theorem actOf_sz {m : Nat} {T : Tm} (o : TmOk m T) (hm : 0 < m) : SzE (m + m) (actOf T) := (lenOf_sz o hm).mul o.many (by omega)
theorem edg_sz {d b : Rat} {a : EQ} {m : Nat} (hd : Sz m d) (hb : Sz m b) (ha : SzE (m + m) a) : SzE (4 * m + 4) (edg d b a).1 ∧ SzE (4 * m + 4) (edg d b a).2.1 ∧ SzE (4 * m + 4) (edg d b a).2.2 := by
  have z : SzE (4 * m + 4) (.fin 0) := Sz.mono (show Sz 1 (0 : Rat) from ⟨by decide, by decide⟩) (by omega)
  have d' : SzE m (.fin d) := hd
  have b' : SzE m (.fin b) := hb
  have e : SzE (4 * m + 4) (emax (.fin 0) (eadd (.fin b) (eadd (.fin d) a))) := z.max ((b'.add (d'.add ha)).mono (by omega))
  exact ⟨z.max ((d'.mono (by omega)).min e), z.max (((d'.add ha).mono (by omega)).min e), e⟩
/-! ### what a curve is as data -/
theorem pt_pd (p : Rat × Option Rat) : ∃ q, pdI (ptD p) = some q ∧ q.canLay0 = true ∧ q.depth ≤ 2 := by
  obtain ⟨a, b⟩ := p
  cases b with
  | none => exact ⟨.tuple [pf a, .none], rfl, rfl, by show (PyData.tuple [.tuple [.int _, .int _], .none]).depth ≤ 2; simp [PyData.depth, PyData.depthAll]⟩
  | some r => exact ⟨.tuple [pf a, pf r], rfl, rfl, by show (PyData.tuple [.tuple [.int _, .int _], .tuple [.int _, .int _]]).depth ≤ 2; simp [PyData.depth, PyData.depthAll]⟩
theorem pts_pd : ∀ ps : List (Rat × Option Rat), ∃ qs, pdIs (ps.map ptD) = some qs ∧ PyData.canLayAll0 qs = true ∧ PyData.depthAll qs ≤ 2 ∧ qs.length = ps.length
  | [] => ⟨[], rfl, rfl, by decide, rfl⟩
  | p :: r => by
    obtain ⟨q, a1, a2, a3⟩ := pt_pd p
    obtain ⟨qs, b1, b2, b3, b4⟩ := pts_pd r
    refine ⟨q :: qs, ?_, ?_, ?_, by simp [b4]⟩
    · show (pdI (ptD p)).bind _ = _
      rw [a1, ob, b1]; rfl
    · rw [PyData.canLayAll0, a2, b2]; rfl
    · rw [PyData.depthAll]; omega
theorem cv_pd (c : Cv) : ∃ q qs, pdI (cvD c) = some (.tuple (q :: qs)) ∧ PyData.canLayAll0 (q :: qs) = true ∧ PyData.depthAll (q :: qs) ≤ 3 := by
  cases c with
  | lin ps =>
    obtain ⟨qs, b1, b2, b3, _⟩ := pts_pd ps
    refine ⟨.str "linear", [.tuple qs], ?_, ?_, ?_⟩
    · have this : pdI (.tup (ps.map ptD)) = some (.tuple qs) := by show (pdIs _).map _ = _; rw [b1]; rfl
      show pdI (.tup [.str "linear", .tup (ps.map ptD)]) = _
      generalize D.tup (ps.map ptD) = t at this
      simp [pdI, pdIs, this]
    · have s : PySem.PyData.strOk "linear" = true := by decide +kernel
      simp only [PyData.canLayAll0, PyData.canLay0, s, b2]; rfl
    · simp only [PyData.depthAll, PyData.depth]; omega
  | cub a b =>
    have s : PySem.PyData.strOk "cubic" = true := by decide +kernel
    refine ⟨.str "cubic", [pf a, pf b], rfl, ?_, ?_⟩
    · unfold pf; simp only [PyData.canLayAll0, PyData.canLay0, s]; rfl
    · unfold pf; simp [PyData.depthAll, PyData.depth]
  | stp n w =>
    have s : PySem.PyData.strOk "steps" = true := by decide +kernel
    have qw : PySem.PyData.strOk (wq w) = true := by cases w <;> decide +kernel
    refine ⟨.str "steps", [.int n, .str (wq w)], rfl, ?_, ?_⟩
    · simp only [PyData.canLayAll0, PyData.canLay0, s, qw]; rfl
    · simp [PyData.depthAll, PyData.depth]
theorem tup_nil {h : MH} {xs : List D} {q : PyData} {qs : List PyData} (e : pdI (.tup xs) = some (.tuple (q :: qs))) (c : PyData.canLayAll0 (q :: qs) = true) (d : PyData.depthAll (q :: qs) ≤ 60) : eqD h (.tup xs) (.tup []) = some false := by
  have p : pdT h (.tup xs) = some (.tuple (q :: qs)) := e
  have p0 : pdT h (.tup []) = some (.tuple []) := rfl
  have s : SeqAt.shaped (.tuple (q :: qs)) = true := by
    unfold SeqAt.shaped
    rw [PyData.canLay0, c, PyData.depth, decide_eq_true (show PyData.depthAll (q :: qs) + 1 ≤ 64 by omega)]
    rfl
  unfold eqD
  rw [p, p0, ob, ob, s, if_pos (by rfl), PyData.eqv]
  rfl
theorem cv_nil (c : Cv) (h : MH) : eqD h (cvD c) (.tup []) = some false := by
  obtain ⟨q, qs, e, l, d⟩ := cv_pd c
  cases c <;> exact tup_nil e l (by omega)
theorem pts_nil {ps : List (Rat × Option Rat)} (n : ps ≠ []) (h : MH) : eqD h (.tup (ps.map ptD)) (.tup []) = some false := by
  obtain ⟨qs, b1, b2, b3, b4⟩ := pts_pd ps
  cases qs with
  | nil => exact absurd (List.length_eq_zero_iff.mp b4.symm) n
  | cons q qs => exact tup_nil (show (pdIs _).map PyData.tuple = _ by rw [b1]; rfl) b2 (by omega)
/-! ### heaps that only grow -/
def Ap (h h' : MH) : Prop := ∃ x, h' = h ++ x
theorem Ap.refl (h : MH) : Ap h h := ⟨[], by simp⟩
theorem Ap.one (h : MH) (x : List D) : Ap h (h ++ [x]) := ⟨[x], rfl⟩
theorem Ap.trans {h h1 h2 : MH} (a : Ap h h1) (b : Ap h1 h2) : Ap h h2 := by
  obtain ⟨x, rfl⟩ := a
  obtain ⟨y, rfl⟩ := b
  exact ⟨x ++ y, by rw [List.append_assoc]⟩
theorem Dr.ap {s : Nat} {h h1 h2 : MH} (a : Dr s h h1) (b : Ap h1 h2) : Dr s h h2 := by
  obtain ⟨x, rfl⟩ := b
  exact a.app x
theorem Ap.keep {h h1 : MH} (a : Ap h h1) {n : Nat} {xs : List D} (e : h[n]? = some xs) : h1[n]? = some xs := by
  obtain ⟨x, rfl⟩ := a
  rw [List.getElem?_append_left (List.getElem?_eq_some_iff.mp e).1]; exact e
/-! ### words -/
theorem fw_in (f : Fw) (h : MH) : cmpD .notin h (.str (fw f)) (.tup [.str "none", .str "forwards", .str "backwards", .str "both"]) = some false := by
  show (inP (.str (fw f)) (.tuple [.str "none", .str "forwards", .str "backwards", .str "both"])).map (!·) = _
  cases f <;> decide +kernel
theorem ww_in (f : Ww) (h : MH) : cmpD .notin h (.str (ww f)) (.tup [.str "normal", .str "reverse", .str "alternate", .str "alternate reverse"]) = some false := by
  show (inP (.str (ww f)) (.tuple [.str "normal", .str "reverse", .str "alternate", .str "alternate reverse"])).map (!·) = _
  cases f <;> decide +kernel
theorem s_eq (a b : Str) (r : Bool) (ha : PySem.PyData.strOk a = true) (hb : PySem.PyData.strOk b = true) (hr : (a == b) = r) (h : MH) : eqD h (.str a) (.str b) = some r := by
  rw [eqD_str h _ _ ha hb, hr]
theorem isN_non : isNone .non = true := rfl
theorem isN_fr (r : Rat) : isNone (frR r) = false := rfl
theorem isN_e (e : EQ) : isNone (eD e) = false := by cases e <;> rfl
theorem isN_str (s : Str) : isNone (.str s) = false := rfl
theorem isN_int (i : Int) : isNone (.int i) = false := rfl
theorem isN_tup (xs : List D) : isNone (.tup xs) = false := rfl
theorem lD_none : lD none = .non := rfl
theorem lD_some (e : EQ) : lD (some e) = eD e := rfl
theorem oD_none : oD none = .non := rfl
theorem oD_some (r : Rat) : oD (some r) = frR r := rfl
theorem Dr.setNew {s : Nat} {h0 h : MH} (a : Dr s h0 h) {n : Nat} (l : h0.length ≤ n) (ne : n ≠ s) (xs : List D) : Dr s h0 (h.set n xs) := by
  obtain ⟨⟨c, m, t, e⟩, l1, k⟩ := a
  refine ⟨⟨c, m, t, by rw [List.getElem?_set_ne ne]; exact e⟩, by rw [List.length_set]; exact l1, fun j lj nj => ?_⟩
  rw [List.getElem?_set_ne (by omega)]
  exact k j lj nj
theorem pick {s : Nat} {h h2 : MH} {xs : List D} {v : Int} (H : SrcH h s) (D2 : Dr s (h ++ [xs]) h2) (v0 : 0 ≤ v) (v1 : v < xs.length) : ∃ d, d ∈ xs ∧ idxD h2 (.ref h.length) (.int v) = some d := by
  have ns : h.length ≠ s := by have := H.lt; omega
  have e := D2.keep (get_app xs []) ns
  have lv : v.toNat < xs.length := by omega
  refine ⟨xs[v.toNat], List.getElem_mem lv, ?_⟩
  have q := atI_nat (List.getElem?_eq_getElem lv)
  rw [show ((v.toNat : Nat) : Int) = v by omega] at q
  rw [ix_r e]
  exact q
theorem SrcH.app {h : MH} {s : Nat} (H : SrcH h s) (x : List (List D)) : SrcH (h ++ x) s := ((Dr.refl H).app x).1
end Fq

set_option maxHeartbeats 4000000
/-! Fq: lines, in plain terms. -/
namespace Fq
open PySem L2
/-- turns enough where an index walks the list at i -/
def lenAt (τ : En) (h : MH) (i : Nat) : Nat := match τ[i]? with
  | some (some (.ref n)) => ((h[n]?).getD []).length + 1
  | _ => 1
abbrev OL := List (Option Rat)
/-- the first and the last input are told -/
def ends1 : OL → OL
  | none :: r => some 0 :: r
  | L => L
def endsN : OL → OL
  | [] => []
  | [none] => [some 1]
  | [some x] => [some x]
  | x :: y :: r => x :: endsN (y :: r)
/-- the greatest so far -/
def rmx : Rat → OL → OL
  | _, [] => []
  | m, none :: r => none :: rmx m r
  | m, some x :: r => some (if m < x then x else m) :: rmx (if m < x then x else m) r
/-- how many are not told, and what is told next -/
def nxt : OL → Option (Nat × Rat)
  | [] => none
  | some b :: _ => some (0, b)
  | none :: r => (nxt r).map fun (n, b) => (n + 1, b)
/-- what lies between two told ones is spread evenly -/
def spr : Rat → OL → List Rat
  | _, [] => []
  | _, some b :: r => b :: spr b r
  | a, none :: r => match nxt r with
    | some (n, b) => (a + (b - a) / ((n : Rat) + 2)) :: spr (a + (b - a) / ((n : Rat) + 2)) r
    | none => a :: spr a r
theorem nxt_rep (k : Nat) (b : Rat) (r : OL) : nxt (List.replicate k none ++ some b :: r) = some (k, b) := by
  induction k with
  | zero => rfl
  | succ k ih =>
    rw [List.replicate_succ, List.cons_append]
    show (nxt _).map _ = _
    rw [ih]; rfl
theorem spr_len : ∀ (a : Rat) (r : OL), (spr a r).length = r.length
  | _, [] => rfl
  | _, some b :: r => by show (spr b r).length + 1 = _; rw [spr_len b r]; rfl
  | a, none :: r => by
    unfold spr
    split
    · rw [List.length_cons, spr_len _ r]; rfl
    · rw [List.length_cons, spr_len _ r]; rfl
/-- the j-th between a and b, of K steps -/
def btw (a b : Rat) (K j : Nat) : Rat := a + (b - a) * ((j : Rat) / (K : Rat))
theorem btw_step (a b : Rat) (K j : Nat) (h : j + 1 < K) : btw a b K j + (b - btw a b K j) / (((K - j - 2 : Nat) : Rat) + 2) = btw a b K (j + 1) := by
  obtain ⟨d, rfl⟩ : ∃ d, K = j + 2 + d := ⟨K - j - 2, by omega⟩
  rw [show j + 2 + d - j - 2 = d by omega]
  unfold btw
  have e1 : ((j + 2 + d : Nat) : Rat) = (j : Rat) + 2 + (d : Rat) := by push_cast; rfl
  have e2 : ((j + 1 : Nat) : Rat) = (j : Rat) + 1 := by push_cast; rfl
  have pj : (0 : Rat) ≤ (j : Rat) := by exact_mod_cast Nat.zero_le j
  have pd : (0 : Rat) ≤ (d : Rat) := by exact_mod_cast Nat.zero_le d
  rw [e1, e2]
  have n1 : (j : Rat) + 2 + (d : Rat) ≠ 0 := by grind
  have n2 : (d : Rat) + 2 ≠ 0 := by grind
  grind
theorem spr_gap (a b : Rat) (r : OL) (K : Nat) : ∀ (m j : Nat), j + 1 + m = K → spr (btw a b K j) (List.replicate m none ++ some b :: r) = (List.range m).map (fun i => btw a b K (j + 1 + i)) ++ b :: spr b r
  | 0, j, h => rfl
  | m + 1, j, h => by
    rw [List.replicate_succ, List.cons_append, spr, nxt_rep]
    have e := btw_step a b K j (by omega)
    rw [show K - j - 2 = m by omega] at e
    simp only [e]
    rw [spr_gap a b r K m (j + 1) (by omega), List.range_succ_eq_map, List.map_cons, List.map_map, List.cons_append]
    congr 2
    apply List.map_congr_left
    intro i _
    show btw a b K (j + 1 + 1 + i) = btw a b K (j + 1 + (i + 1))
    rw [show j + 1 + 1 + i = j + 1 + (i + 1) by omega]
theorem btw0 (a b : Rat) (K : Nat) : btw a b K 0 = a := by unfold btw; grind
/-! ### while loops -/
theorem whl_of {c : En → MH → Option (Bool × MH)} {f : En → MH → SR} {Fin : En → MH → Prop} (P : Nat → En → MH → Prop)
    (step : ∀ k σ h, P k σ h → (∃ h1, c σ h = some (false, h1) ∧ Fin σ h1) ∨ ∃ h1 σ' h' k', c σ h = some (true, h1) ∧ f σ h1 = some (.nx, σ', h') ∧ k' < k ∧ P k' σ' h') :
    ∀ (n k : Nat) (σ : En) (h : MH) (X : SR), whlL c f n σ h = X → k < n → P k σ h → ∃ σ' h', X = some (.nx, σ', h') ∧ Fin σ' h'
  | 0, _, _, _, _, _, l, _ => absurd l (Nat.not_lt_zero _)
  | n + 1, k, σ, h, X, e, l, p => by
    rcases step k σ h p with ⟨h1, e1, q⟩ | ⟨h1, σ', h', k', e1, e2, lk, p'⟩
    · refine ⟨σ, h1, ?_, q⟩
      rw [← e]
      show (c σ h).bind _ = _
      rw [e1]; rfl
    · refine whl_of P step n k' σ' h' X ?_ (by omega) p'
      rw [← e]
      show _ = (c σ h).bind _
      rw [e1]
      show _ = (f σ h1).bind _
      rw [e2]; rfl
/-! ### a list that is filled from the left -/
def mix {α : Type} (A B : List α) (p : Nat) : List α := A.take p ++ B.drop p
theorem mix_len {α : Type} {A B : List α} (e : A.length = B.length) (p : Nat) : (mix A B p).length = A.length := by
  unfold mix
  rw [List.length_append, List.length_take, List.length_drop]
  omega
theorem mix_lo {α : Type} {A B : List α} (e : A.length = B.length) {p i : Nat} (l : i < p) : (mix A B p)[i]? = A[i]? := by
  unfold mix
  by_cases h : i < A.length
  · rw [List.getElem?_append_left (by rw [List.length_take]; omega), List.getElem?_take_of_lt l]
  · rw [List.getElem?_eq_none (by rw [List.length_append, List.length_take, List.length_drop]; omega), List.getElem?_eq_none (by omega)]
theorem mix_hi {α : Type} {A B : List α} (e : A.length = B.length) {p i : Nat} (l : p ≤ i) : (mix A B p)[i]? = B[i]? := by
  unfold mix
  by_cases h : p ≤ A.length
  · rw [List.getElem?_append_right (by rw [List.length_take]; omega), List.length_take, List.getElem?_drop, show p + (i - min p A.length) = i by omega]
  · rw [List.getElem?_eq_none (by rw [List.length_append, List.length_take, List.length_drop]; omega), List.getElem?_eq_none (by omega)]
theorem mix_set {α : Type} {A B : List α} (e : A.length = B.length) {p : Nat} {x : α} (hx : A[p]? = some x) : (mix A B p).set p x = mix A B (p + 1) := by
  refine List.ext_getElem? fun i => ?_
  have lp := (List.getElem?_eq_some_iff.mp hx).1
  by_cases h : i = p
  · subst h
    rw [List.getElem?_set_self (by rw [mix_len e]; exact lp), mix_lo e (Nat.lt_succ_self _), hx]
  · rw [List.getElem?_set_ne (fun z => h z.symm)]
    by_cases h2 : i < p
    · rw [mix_lo e h2, mix_lo e (by omega)]
    · rw [mix_hi e (by omega), mix_hi e (by omega)]
theorem mix_same {α : Type} {A B : List α} (e : A.length = B.length) {p : Nat} (hx : A[p]? = B[p]?) : mix A B p = mix A B (p + 1) := by
  refine List.ext_getElem? fun i => ?_
  by_cases h : i = p
  · subst h
    rw [mix_hi e (Nat.le_refl _), mix_lo e (Nat.lt_succ_self _), hx]
  · by_cases h2 : i < p
    · rw [mix_lo e h2, mix_lo e (by omega)]
    · rw [mix_hi e (by omega), mix_hi e (by omega)]
theorem mix_all {α : Type} {A B : List α} (e : A.length = B.length) {p : Nat} (l : A.length ≤ p) : mix A B p = A := by
  unfold mix
  rw [List.take_of_length_le l, List.drop_of_length_le (by omega), List.append_nil]
/-! ### gaps -/
/-- how far the untold ones reach -/
def run0 : OL → Nat
  | none :: r => run0 r + 1
  | _ => 0
theorem run0_le : ∀ L : OL, run0 L ≤ L.length
  | [] => Nat.le_refl _
  | some _ :: _ => Nat.zero_le _
  | none :: r => by show run0 r + 1 ≤ r.length + 1; have := run0_le r; omega
/-- the last one is told -/
def Told (L : OL) : Prop := ∀ k, L ≠ List.replicate (k + 1) none ∧ ∀ P b, L ≠ P ++ some b :: List.replicate (k + 1) none
theorem run0_split : ∀ L : OL, (∃ b R, L = List.replicate (run0 L) none ++ some b :: R) ∨ L = List.replicate (run0 L) none
  | [] => .inr rfl
  | some b :: R => .inl ⟨b, R, rfl⟩
  | none :: r => by
    rcases run0_split r with ⟨b, R, e⟩ | e
    · exact .inl ⟨b, R, by show none :: r = List.replicate (run0 r + 1) none ++ some b :: R; rw [List.replicate_succ, List.cons_append, ← e]⟩
    · exact .inr (by show none :: r = List.replicate (run0 r + 1) none; rw [List.replicate_succ, ← e])
theorem Told.tail {P : OL} {b : Rat} {R : OL} (t : Told (P ++ some b :: R)) : R = [] ∨ ∃ b' R', R = List.replicate (run0 R) none ++ some b' :: R' := by
  rcases run0_split R with h | h
  · exact .inr h
  · cases e : run0 R with
    | zero => rw [e] at h; exact .inl h
    | succ k => rw [e] at h; exact absurd (by rw [h]) ((t k).2 P b)
theorem rep_get {k i : Nat} (l : i < k) (b : Rat) (R : OL) : (List.replicate k (none : Option Rat) ++ some b :: R)[i]? = some none := by
  rw [List.getElem?_append_left (by rw [List.length_replicate]; exact l), List.getElem?_replicate, if_pos l]
theorem run0_get {R : OL} {i : Nat} (l : i < run0 R) : R[i]? = some none := by
  rcases run0_split R with ⟨b, R', e⟩ | e
  · generalize run0 R = g at e l
    rw [e]
    exact rep_get l b R'
  · generalize run0 R = g at e l
    rw [e, List.getElem?_replicate, if_pos l]
theorem rep_at (k : Nat) (b : Rat) (R : OL) : (List.replicate k (none : Option Rat) ++ some b :: R)[k]? = some (some b) := by
  rw [List.getElem?_append_right (by rw [List.length_replicate]; exact Nat.le_refl _), List.length_replicate, Nat.sub_self]; rfl
theorem spr_at (a b : Rat) (R : OL) (k : Nat) : spr a (List.replicate k none ++ some b :: R) = (List.range k).map (fun i => btw a b (k + 1) (1 + i)) ++ b :: spr b R := by
  have := spr_gap a b R (k + 1) k 0 (by omega)
  rw [btw0] at this
  rw [this]
end Fq

set_option maxHeartbeats 4000000
/-! Fq: lines with all inputs told, and their values. -/
namespace Fq
open PySem L2
/-! ### the last one is told -/
def LastT (L : OL) : Prop := ∃ z, L.getLast? = some (some z)
theorem LastT.told {L : OL} (h : LastT L) : Told L := by
  obtain ⟨z, e⟩ := h
  intro k
  refine ⟨fun q => ?_, fun P b q => ?_⟩
  · rw [q, List.getLast?_replicate] at e
    simp at e
  · rw [q, List.getLast?_append, List.getLast?_cons, List.getLast?_replicate] at e
    simp at e
theorem ends1_len : ∀ L : OL, (ends1 L).length = L.length
  | [] => rfl
  | none :: _ => rfl
  | some _ :: _ => rfl
theorem endsN_cons (x y : Option Rat) (r : OL) : endsN (x :: y :: r) = x :: endsN (y :: r) := by cases x <;> rfl
theorem endsN_len : ∀ L : OL, (endsN L).length = L.length
  | [] => rfl
  | [none] => rfl
  | [some x] => rfl
  | x :: y :: r => by rw [endsN_cons, List.length_cons, endsN_len (y :: r)]; rfl
theorem endsN_last : ∀ L : OL, L ≠ [] → LastT (endsN L)
  | [], h => absurd rfl h
  | [none], _ => ⟨1, rfl⟩
  | [some x], _ => ⟨x, rfl⟩
  | x :: y :: r, _ => by
    obtain ⟨z, e⟩ := endsN_last (y :: r) (by simp)
    refine ⟨z, ?_⟩
    rw [endsN_cons, List.getLast?_cons, e]; rfl
theorem endsN_head {a : Rat} : ∀ {L : OL}, (∃ r, endsN (some a :: L) = some a :: r)
  | [] => ⟨[], rfl⟩
  | y :: r => ⟨endsN (y :: r), endsN_cons _ _ _⟩
theorem rmx_len : ∀ (m : Rat) (L : OL), (rmx m L).length = L.length
  | _, [] => rfl
  | m, none :: r => by show (rmx m r).length + 1 = _; rw [rmx_len m r]; rfl
  | m, some x :: r => by show (rmx _ r).length + 1 = _; rw [rmx_len _ r]; rfl
theorem rmx_last : ∀ (m : Rat) (L : OL), LastT L → LastT (rmx m L)
  | _, [], h => by obtain ⟨z, e⟩ := h; simp at e
  | m, [none], h => by obtain ⟨z, e⟩ := h; simp at e
  | m, [some x], _ => ⟨_, rfl⟩
  | m, none :: y :: r, h => by
    obtain ⟨z, e⟩ := rmx_last m (y :: r) (by obtain ⟨z, e⟩ := h; exact ⟨z, by rw [List.getLast?_cons_cons] at e; exact e⟩)
    refine ⟨z, ?_⟩
    show (none :: rmx m (y :: r)).getLast? = _
    rw [List.getLast?_cons, e]; rfl
  | m, some x :: y :: r, h => by
    obtain ⟨z, e⟩ := rmx_last (if m < x then x else m) (y :: r) (by obtain ⟨z, e⟩ := h; exact ⟨z, by rw [List.getLast?_cons_cons] at e; exact e⟩)
    refine ⟨z, ?_⟩
    show (some _ :: rmx _ (y :: r)).getLast? = _
    rw [List.getLast?_cons, e]; rfl
theorem rmx_mem : ∀ (m : Rat) (L : OL) (r : Rat), some r ∈ rmx m L → r = m ∨ some r ∈ L
  | _, [], _, h => by cases h
  | m, none :: t, r, h => by
    rcases List.mem_cons.mp h with e | e
    · cases e
    · rcases rmx_mem m t r e with e | e
      · exact .inl e
      · exact .inr (List.mem_cons_of_mem _ e)
  | m, some x :: t, r, h => by
    rcases List.mem_cons.mp h with e | e
    · cases e
      split
      · exact .inr List.mem_cons_self
      · exact .inl rfl
    · rcases rmx_mem _ t r e with e | e
      · rw [e]
        split
        · exact .inr List.mem_cons_self
        · exact .inl rfl
      · exact .inr (List.mem_cons_of_mem _ e)
theorem ends1_mem : ∀ (L : OL) (r : Rat), some r ∈ ends1 L → r = 0 ∨ some r ∈ L
  | [], _, h => by cases h
  | none :: t, r, h => by
    rcases List.mem_cons.mp h with e | e
    · cases e; exact .inl rfl
    · exact .inr (List.mem_cons_of_mem _ e)
  | some x :: t, r, h => .inr h
theorem endsN_mem : ∀ (L : OL) (r : Rat), some r ∈ endsN L → r = 1 ∨ some r ∈ L
  | [], _, h => by cases h
  | [none], r, h => by simp [endsN] at h; exact .inl h
  | [some x], r, h => .inr h
  | x :: y :: t, r, h => by
    rw [endsN_cons] at h
    rcases List.mem_cons.mp h with e | e
    · rw [e]; exact .inr List.mem_cons_self
    · rcases endsN_mem (y :: t) r e with e | e
      · exact .inl e
      · exact .inr (List.mem_cons_of_mem _ e)
/-! ### all inputs told -/
def spr1 : OL → List Rat
  | some a :: r => a :: spr a r
  | _ => []
def hd0 : OL → Rat
  | some a :: _ => a
  | _ => 0
def ends (L : OL) : OL := endsN (ends1 L)
def told1 (L : OL) : OL := rmx (hd0 (ends L)) (ends L)
def setI (L : OL) : List Rat := spr1 (told1 L)
theorem ends_ok (L : OL) (h : L ≠ []) : ∃ a r, ends L = some a :: r ∧ LastT (ends L) ∧ (ends L).length = L.length := by
  have l : LastT (ends L) := endsN_last _ (by cases L with | nil => exact absurd rfl h | cons x r => cases x <;> exact List.cons_ne_nil _ _)
  have len : (ends L).length = L.length := by unfold ends; rw [endsN_len, ends1_len]
  cases L with
  | nil => exact absurd rfl h
  | cons x r =>
    cases x with
    | none => obtain ⟨r', e⟩ := endsN_head (a := 0) (L := r); exact ⟨0, r', e, l, len⟩
    | some a => obtain ⟨r', e⟩ := endsN_head (a := a) (L := r); exact ⟨a, r', e, l, len⟩
theorem told1_ok (L : OL) (h : L ≠ []) : ∃ a r, told1 L = some a :: r ∧ LastT (told1 L) ∧ (told1 L).length = L.length ∧ ∃ t, ends L = some a :: t ∧ r = rmx a t := by
  obtain ⟨a, r, e, l, len⟩ := ends_ok L h
  refine ⟨a, rmx a r, ?_, rmx_last _ _ l, by unfold told1; rw [rmx_len, len], r, e, rfl⟩
  unfold told1
  rw [e]
  show some (if a < a then a else a) :: rmx (if a < a then a else a) r = _
  rw [if_neg (by grind)]
theorem told1_sz {m : Nat} (m0 : 0 < m) (L : OL) (h : L ≠ []) (z : ∀ r, some r ∈ L → Sz m r) : ∀ r, some r ∈ told1 L → Sz m r := by
  have e1 : ∀ r, some r ∈ ends L → Sz m r := by
    intro r hr
    rcases endsN_mem _ r hr with e | e
    · rw [e]; exact Sz.mono (show Sz 1 (1 : Rat) from ⟨by decide, by decide⟩) m0
    · rcases ends1_mem _ r e with e | e
      · rw [e]; exact Sz.mono (show Sz 1 (0 : Rat) from ⟨by decide, by decide⟩) m0
      · exact z r e
  intro r hr
  obtain ⟨a, t, e, _, _⟩ := ends_ok L h
  rcases rmx_mem _ _ r hr with q | q
  · rw [q, e]; exact e1 a (by rw [e]; exact List.mem_cons_self)
  · exact e1 r q
theorem setI_len (L : OL) : (setI L).length = L.length := by
  by_cases h : L = []
  · subst h; rfl
  · obtain ⟨a, r, e, _, len, _⟩ := told1_ok L h
    unfold setI
    rw [e, ← len, e]
    show (spr a r).length + 1 = r.length + 1
    rw [spr_len]
/-! ### their sizes -/
theorem Sz.btw {a b : Rat} {m K j : Nat} (ha : Sz m a) (hb : Sz m b) (k0 : 0 < K) (hK : K < 1024) (hj : j < 1024) : Sz (3 * m + 12) (btw a b K j) := by
  unfold Fq.btw
  have z : Sz 10 ((j : Rat) / (K : Rat)) := by
    have := Sz.divInt (a := (j : Int)) (b := (K : Int)) (n := 10) (by omega) (by omega) (by omega)
    rw [Rat.divInt_eq_div] at this
    exact this
  exact (ha.add ((hb.sub ha).mul z)).mono (by omega)
theorem spr_szs {m : Nat} : ∀ (N : Nat) (a : Rat) (L : OL), L.length ≤ N → N < 1000 → Sz m a → (∀ r, some r ∈ L → Sz m r) → (L = [] ∨ LastT L) → ∀ r ∈ spr a L, Sz (3 * m + 12) r
  | N, a, L, hN, h9, za, zl, ht, r, hr => by
    rcases run0_split L with ⟨b', R', e⟩ | e
    · have lenL : L.length = run0 L + 1 + R'.length := by
        have := congrArg List.length e
        rw [List.length_append, List.length_replicate, List.length_cons] at this
        omega
      have zb : Sz m b' := zl b' (by rw [e]; simp)
      have tl : R' = [] ∨ LastT R' := by
        cases R' with
        | nil => exact .inl rfl
        | cons x r =>
          rcases ht with h | ⟨z, h⟩
          · rw [h] at lenL; simp at lenL
          · right
            refine ⟨z, ?_⟩
            rw [e, List.getLast?_append, List.getLast?_cons_cons] at h
            cases q : (x :: r).getLast? with
            | none => simp at q
            | some w => rw [q] at h; simpa using h
      generalize eg : run0 L = g at e lenL
      rw [e, spr_at] at hr
      rcases List.mem_append.mp hr with h | h
      · obtain ⟨i, hi, rfl⟩ := List.mem_map.mp h
        have := List.mem_range.mp hi
        exact Sz.btw za zb (by omega) (by omega) (by omega)
      · rcases List.mem_cons.mp h with h | h
        · rw [h]; exact zb.mono (by omega)
        · cases N with
          | zero => omega
          | succ N => exact spr_szs N b' R' (by omega) (by omega) zb (fun r hr => zl r (by rw [e]; simp [hr])) tl r h
    · rcases ht with h | h
      · subst h; cases hr
      · cases q : run0 L with
        | zero => rw [q] at e; subst e; cases hr
        | succ k => rw [q] at e; exact absurd e (h.told k).1
theorem setI_sz {m : Nat} (m0 : 0 < m) {L : OL} (h : L.length < 1000) (z : ∀ r, some r ∈ L → Sz m r) : ∀ r ∈ setI L, Sz (3 * m + 12) r := by
  by_cases h0 : L = []
  · subst h0; intro r hr; cases hr
  · obtain ⟨a, t, e, l, len, _⟩ := told1_ok L h0
    have zs := told1_sz m0 L h0 z
    intro r hr
    unfold setI at hr
    rw [e] at hr zs l len
    rcases List.mem_cons.mp hr with q | q
    · rw [q]; exact (zs a List.mem_cons_self).mono (by omega)
    · refine spr_szs t.length a t (Nat.le_refl _) (by rw [List.length_cons] at len; omega) (zs a List.mem_cons_self) (fun r hr => zs r (List.mem_cons_of_mem _ hr)) ?_ r q
      cases t with
      | nil => exact .inl rfl
      | cons x r =>
        obtain ⟨z, h⟩ := l
        rw [List.getLast?_cons_cons] at h
        exact .inr ⟨z, h⟩
/-! ### the value on a line -/
def les (F : List Rat) (x : Rat) (n : Nat) : List Nat := (List.range n).filter (fun i => !decide (x < F.getD i 0))
def lastLe (F : List Rat) (x : Rat) (n : Nat) : Nat := (les F x n).getLast?.getD 0
def linV (P : List (Rat × Rat)) (x : Rat) : Rat :=
  if P.length = 1 then (P.getD 0 (0, 0)).1 else
  let i := lastLe (P.map (·.2)) x (P.length - 1)
  let p := P.getD i (0, 0)
  let q := P.getD (i + 1) (0, 0)
  if p.2 = q.2 then q.1 else p.1 + (q.1 - p.1) * ((x - p.2) / (q.2 - p.2))
def setP (ps : List (Rat × Option Rat)) : List (Rat × Rat) := (ps.map (·.1)).zip (setI (ps.map (·.2)))
def lnV (ps : List (Rat × Option Rat)) (x : Rat) : Rat := linV (setP ps) x
theorem setP_len (ps : List (Rat × Option Rat)) : (setP ps).length = ps.length := by
  unfold setP
  rw [List.length_zip, setI_len, List.length_map, List.length_map, Nat.min_self]
theorem setP_snd (ps : List (Rat × Option Rat)) : (setP ps).map (·.2) = setI (ps.map (·.2)) := by
  unfold setP
  rw [List.map_snd_zip]
  rw [setI_len, List.length_map, List.length_map]; exact Nat.le_refl _
theorem setP_fst (ps : List (Rat × Option Rat)) : (setP ps).map (·.1) = ps.map (·.1) := by
  unfold setP
  rw [List.map_fst_zip]
  rw [setI_len, List.length_map, List.length_map]; exact Nat.le_refl _
theorem setP_sz {m : Nat} (m0 : 0 < m) {ps : List (Rat × Option Rat)} (l : ps.length < 1000) (h : ∀ p ∈ ps, PtOk m p) : ∀ p ∈ setP ps, Sz m p.1 ∧ Sz (3 * m + 12) p.2 := by
  intro p hp
  refine ⟨?_, ?_⟩
  · have : p.1 ∈ (setP ps).map (·.1) := List.mem_map_of_mem hp
    rw [setP_fst] at this
    obtain ⟨q, hq, e⟩ := List.mem_map.mp this
    rw [← e]; exact (h q hq).1
  · have : p.2 ∈ (setP ps).map (·.2) := List.mem_map_of_mem hp
    rw [setP_snd] at this
    refine setI_sz m0 (by rw [List.length_map]; exact l) ?_ _ this
    intro r hr
    obtain ⟨q, hq, e⟩ := List.mem_map.mp hr
    exact (h q hq).2 r e
theorem lastLe_lt {F : List Rat} {x : Rat} {n : Nat} (h : 0 < n) : lastLe F x n < n := by
  unfold lastLe
  cases e : (les F x n).getLast? with
  | none => exact h
  | some i =>
    have := List.mem_of_getLast? e
    unfold les at this
    rw [List.mem_filter] at this
    exact List.mem_range.mp this.1
theorem getD_mem {α : Type} {P : List α} {i : Nat} {d : α} (h : i < P.length) : P.getD i d ∈ P := by
  rw [List.getD_eq_getElem?_getD, List.getElem?_eq_getElem h]
  exact List.getElem_mem h
theorem linV_sz {m n k : Nat} {P : List (Rat × Rat)} (hz : ∀ p ∈ P, Sz m p.1 ∧ Sz n p.2) (h0 : P ≠ []) {x : Rat} (zx : Sz k x) : Sz (3 * m + k + 3 * n + 6) (linV P x) := by
  have lp : 0 < P.length := List.length_pos_iff.mpr h0
  unfold linV
  split
  · exact (hz _ (getD_mem lp)).1.mono (by omega)
  · rename_i h1
    have li := lastLe_lt (F := P.map (·.2)) (x := x) (n := P.length - 1) (by omega)
    generalize lastLe (P.map (·.2)) x (P.length - 1) = i at li
    have p := hz _ (getD_mem (d := (0, 0)) (show i < P.length by omega))
    have q := hz _ (getD_mem (d := (0, 0)) (show i + 1 < P.length by omega))
    simp only []
    split
    · exact q.1.mono (by omega)
    · exact (p.1.add ((q.1.sub p.1).mul ((zx.sub p.2).div (q.2.sub p.2)))).mono (by omega)
/-- the greatest of them is the last one -/
theorem maxI_up : ∀ (l : List Nat) (m : Nat), (∀ x ∈ l, m ≤ x) → l.Pairwise (· ≤ ·) → maxI (m : Int) (l.map (fun (n : Nat) => (n : Int))) = ((l.getLast?.getD m : Nat) : Int)
  | [], m, _, _ => rfl
  | x :: r, m, h, s => by
    have hx := h x List.mem_cons_self
    have e : (if ((x : Nat) : Int) > (m : Int) then ((x : Nat) : Int) else (m : Int)) = (x : Int) := by split <;> omega
    show maxI (if ((x : Nat) : Int) > (m : Int) then ((x : Nat) : Int) else (m : Int)) _ = _
    rw [e]
    obtain ⟨s1, s2⟩ := List.pairwise_cons.mp s
    have ih := maxI_up r x s1 s2
    show maxI (x : Int) (r.map (fun (n : Nat) => (n : Int))) = _
    rw [ih, List.getLast?_cons]
    rfl
theorem les_up (F : List Rat) (x : Rat) (n : Nat) : (les F x n).Pairwise (· ≤ ·) :=
  List.Pairwise.filter _ (List.pairwise_le_range (n := n))
theorem maxI_les (F : List Rat) (x : Rat) (n : Nat) : maxI 0 ((les F x n).map (fun (n : Nat) => (n : Int))) = ((lastLe F x n : Nat) : Int) := maxI_up _ 0 (fun _ _ => Nat.zero_le _) (les_up F x n)
/-! ### comprehensions with a test -/
theorem lc_some {src : Src} {f : D → MH → Option (Option D × MH)} {n : Nat} {h : MH} {X : Option (List D × MH)} (e : lcL src f n 0 [] h = X) (N : Nat) (item : Nat → D) (p : Nat → Bool) (ge : Nat → D) (l : N < n)
    (hs : ∀ i, srcAt h src i = some (if i < N then some (item i) else none)) (hf : ∀ i, i < N → f (item i) h = some (if p i then some (ge i) else none, h)) : X = some (((List.range N).filter p).map ge, h) := by
  have key : ∀ (k i : Nat) (acc : List D), i + k = N → ∀ n, k < n → lcL src f n i acc h = some (acc ++ (((List.range' i k).filter p).map ge), h) := by
    intro k
    induction k with
    | zero =>
      intro i acc ei n hn
      cases n with
      | zero => omega
      | succ n =>
        show (srcAt h src i).bind _ = _
        rw [hs, if_neg (by omega)]
        simp
    | succ k ih =>
      intro i acc ei n hn
      cases n with
      | zero => omega
      | succ n =>
        show (srcAt h src i).bind _ = _
        rw [hs, if_pos (by omega)]
        show (f (item i) h).bind _ = _
        rw [hf i (by omega)]
        cases q : p i with
        | true =>
          show lcL src f n (i + 1) (acc ++ [ge i]) h = _
          rw [ih (i + 1) _ (by omega) n (by omega), List.range'_succ, List.filter_cons, q]
          simp
        | false =>
          show lcL src f n (i + 1) acc h = _
          rw [ih (i + 1) _ (by omega) n (by omega), List.range'_succ, List.filter_cons, q]
          simp
  rw [← e, key N 0 [] (by omega) n l, List.nil_append, ← List.range_eq_range']
/-! ### one statement at a time -/
theorem it_tup (h : MH) (xs : List D) : itemsD h (.tup xs) = some xs := rfl
theorem exes_nx {Γ : Gm} {s : St} {r : List St} {σ σ1 : En} {h h1 : MH} (e : exe Γ s σ h = some (.nx, σ1, h1)) : exes Γ (s :: r) σ h = exes Γ r σ1 h1 := by
  show (exe Γ s σ h).bind _ = _
  rw [e]; rfl
theorem exes_rt {Γ : Gm} {s : St} {r : List St} {σ σ1 : En} {h h1 : MH} {d : D} (e : exe Γ s σ h = some (.rt d, σ1, h1)) : exes Γ (s :: r) σ h = some (.rt d, σ1, h1) := by
  show (exe Γ s σ h).bind _ = _
  rw [e]; rfl
theorem exes_nil {Γ : Gm} {σ : En} {h : MH} : exes Γ [] σ h = some (.nx, σ, h) := rfl
theorem exe_ift_t {Γ : Gm} {c : Ex} {a b : List St} {σ : En} {h h1 : MH} (e : getB (ev Γ c σ h) = some (true, h1)) : exe Γ (.ift c a b) σ h = exes Γ a σ h1 := by
  show (getB (ev Γ c σ h)).bind _ = _
  rw [e]; rfl
theorem exe_ift_f {Γ : Gm} {c : Ex} {a b : List St} {σ : En} {h h1 : MH} (e : getB (ev Γ c σ h) = some (false, h1)) : exe Γ (.ift c a b) σ h = exes Γ b σ h1 := by
  show (getB (ev Γ c σ h)).bind _ = _
  rw [e]; rfl
theorem exe_asg {Γ : Gm} {i : Nat} {x : Ex} {σ : En} {h h1 : MH} {d : D} (e : ev Γ x σ h = some (d, h1)) : exe Γ (.asg (.nm i) x) σ h = some (.nx, σ.set i (some d), h1) := by
  show (ev Γ x σ h).bind _ = _
  rw [e]; rfl
theorem exe_ret {Γ : Gm} {x : Ex} {σ : En} {h h1 : MH} {d : D} (e : ev Γ x σ h = some (d, h1)) : exe Γ (.ret x) σ h = some (.rt d, σ, h1) := by
  show (ev Γ x σ h).map _ = _
  rw [e]; rfl
theorem exe_for {Γ : Gm} {t : Tg} {it : It} {b : List St} {σ : En} {h h1 : MH} {src : Src} (e : evIt Γ it σ h = some (src, h1)) :
    exe Γ (.for t it b) σ h = forL src (fun x σ h => (asgT Γ t x σ h).bind fun (σ1, h2) => exes Γ b σ1 h2) (srcLen h1 src + 1) 0 σ h1 := by
  show (evIt Γ it σ h).bind _ = _
  rw [e]; rfl
theorem exe_whl {Γ : Gm} {c : Ex} {b : List St} {fu : En → MH → Nat} {σ : En} {h : MH} :
    exe Γ (.whl c b fu) σ h = whlL (fun σ h => getB (ev Γ c σ h)) (fun σ h => exes Γ b σ h) (fu σ h) σ h := rfl
theorem outD_rt {r : SR} {d : D} {σ : En} {h : MH} (e : r = some (.rt d, σ, h)) : outD r = some (d, h) := by rw [e]; rfl
theorem outD_nx {r : SR} {σ : En} {h : MH} (e : r = some (.nx, σ, h)) : outD r = some (.non, h) := by rw [e]; rfl
end Fq

set_option maxHeartbeats 4000000
/-! Fq: what a timing tells, in plain terms. -/
namespace Fq
open PySem L2
/-! ### sizes, the two parts apart -/
def Zs (p q : Nat) (r : Rat) : Prop := r.num.natAbs < 2 ^ p ∧ r.den < 2 ^ q
theorem Zs.mono {p q p' q' : Nat} {r : Rat} (h : Zs p q r) (l : p ≤ p') (l2 : q ≤ q') : Zs p' q' r :=
  ⟨Nat.lt_of_lt_of_le h.1 (Nat.pow_le_pow_right (by decide) l), Nat.lt_of_lt_of_le h.2 (Nat.pow_le_pow_right (by decide) l2)⟩
theorem Zs.sz {p q n : Nat} {r : Rat} (h : Zs p q r) (l : p ≤ n) (l2 : q ≤ n) : Sz n r := Zs.mono h l l2
theorem Sz.zs {n : Nat} {r : Rat} (h : Sz n r) : Zs n n r := h
theorem Zs.mk {a : Int} {b p q : Nat} (hb : b ≠ 0) (h1 : a.natAbs < 2 ^ p) (h2 : b < 2 ^ q) : Zs p q (mkRat a b) :=
  have := num_div_le a hb
  ⟨Nat.lt_of_le_of_lt this.1 h1, Nat.lt_of_le_of_lt this.2 h2⟩
theorem pow_le2 {a b : Nat} (h : a ≤ b) : 2 ^ a ≤ 2 ^ b := Nat.pow_le_pow_right (by decide) h
theorem Zs.add {a b : Rat} {p q p' q' : Nat} (ha : Zs p q a) (hb : Zs p' q' b) : Zs (max (p + q') (p' + q) + 1) (q + q') (a + b) := by
  rw [Rat.add_def']
  have e1 : (a.num * b.den).natAbs < 2 ^ (p + q') := by rw [Int.natAbs_mul]; exact mul_pow_lt ha.1 hb.2
  have e2 : (b.num * a.den).natAbs < 2 ^ (p' + q) := by rw [Int.natAbs_mul]; exact mul_pow_lt hb.1 ha.2
  have e3 : a.den * b.den < 2 ^ (q + q') := mul_pow_lt ha.2 hb.2
  have e4 := two_mul_pow (max (p + q') (p' + q))
  have l1 := pow_le2 (Nat.le_max_left (p + q') (p' + q))
  have l2 := pow_le2 (Nat.le_max_right (p + q') (p' + q))
  refine Zs.mk (Nat.mul_ne_zero a.den_nz b.den_nz) ?_ e3
  have := Int.natAbs_add_le (a.num * b.den) (b.num * a.den)
  omega
theorem Zs.neg {a : Rat} {p q : Nat} (ha : Zs p q a) : Zs p q (-a) := ⟨by rw [Rat.neg_num, Int.natAbs_neg]; exact ha.1, ha.2⟩
theorem Zs.sub {a b : Rat} {p q p' q' : Nat} (ha : Zs p q a) (hb : Zs p' q' b) : Zs (max (p + q') (p' + q) + 1) (q + q') (a - b) := by
  rw [Rat.sub_eq_add_neg]
  exact ha.add hb.neg
theorem Zs.mul {a b : Rat} {p q p' q' : Nat} (ha : Zs p q a) (hb : Zs p' q' b) : Zs (p + p') (q + q') (a * b) := by
  rw [Rat.mul_def']
  refine Zs.mk (Nat.mul_ne_zero a.den_nz b.den_nz) ?_ (mul_pow_lt ha.2 hb.2)
  rw [Int.natAbs_mul]
  exact mul_pow_lt ha.1 hb.1
theorem Zs.inv {a : Rat} {p q : Nat} (ha : Zs p q a) (h0 : a ≠ 0) : Zs q p a⁻¹ := by
  refine ⟨?_, ?_⟩
  · rw [Rat.num_inv, Int.natAbs_mul]
    have : a.num.sign.natAbs ≤ 1 := by
      rcases Int.lt_trichotomy a.num 0 with h | h | h
      · rw [Int.sign_eq_neg_one_of_neg h]; decide
      · rw [h]; decide
      · rw [Int.sign_eq_one_of_pos h]; decide
    have h2 : (a.den : Int).natAbs = a.den := rfl
    rw [h2]
    exact Nat.lt_of_le_of_lt (Nat.le_trans (Nat.mul_le_mul_right _ this) (by omega)) ha.2
  · rw [Rat.den_inv]
    split
    · rename_i c; exact absurd (Rat.num_eq_zero.mp c) h0
    · exact ha.1
theorem Zs.div {a b : Rat} {p q p' q' : Nat} (ha : Zs p q a) (hb : Zs p' q' b) (h0 : b ≠ 0) : Zs (p + q') (q + p') (a / b) := by
  rw [Rat.div_def]
  exact ha.mul (hb.inv h0)
def ZsE (p q : Nat) : EQ → Prop
  | .fin r => Zs p q r
  | .inf => True
theorem ZsE.mono {p q p' q' : Nat} {a : EQ} (h : ZsE p q a) (l : p ≤ p') (l2 : q ≤ q') : ZsE p' q' a := by
  cases a with
  | fin r => exact Zs.mono h l l2
  | inf => trivial
theorem ZsE.sz {p q n : Nat} {a : EQ} (h : ZsE p q a) (l : p ≤ n) (l2 : q ≤ n) : SzE n a := by
  cases a with
  | fin r => exact Zs.sz h l l2
  | inf => trivial
theorem SzE.zs {n : Nat} {a : EQ} (h : SzE n a) : ZsE n n a := by cases a <;> exact h
theorem ZsE.add {a b : EQ} {p q p' q' : Nat} (ha : ZsE p q a) (hb : ZsE p' q' b) : ZsE (max (p + q') (p' + q) + 1) (q + q') (eadd a b) := by
  cases a <;> cases b <;> first | exact Zs.add ha hb | trivial
theorem ZsE.max {a b : EQ} {p q : Nat} (ha : ZsE p q a) (hb : ZsE p q b) : ZsE p q (emax a b) := by
  unfold emax; split <;> assumption
theorem ZsE.min {a b : EQ} {p q : Nat} (ha : ZsE p q a) (hb : ZsE p q b) : ZsE p q (emin a b) := by
  unfold emin; split <;> assumption
/-! ### the part behind the whole number -/
def frc (r : Rat) : Rat := mkRat (r.num % r.den) r.den
theorem gcd_frc (r : Rat) : Nat.gcd r.den (r.num % r.den).natAbs = 1 := by
  have h := r.reduced
  have hp : (0 : Int) < r.den := by have := r.den_pos; omega
  have dv : Nat.gcd r.den (r.num % r.den).natAbs ∣ Nat.gcd r.num.natAbs r.den := by
    refine Nat.dvd_gcd ?_ (Nat.gcd_dvd_left _ _)
    have d1 : ((Nat.gcd r.den (r.num % r.den).natAbs : Nat) : Int) ∣ (r.den : Int) := Int.ofNat_dvd.mpr (Nat.gcd_dvd_left _ _)
    have d2 : ((Nat.gcd r.den (r.num % r.den).natAbs : Nat) : Int) ∣ r.num % r.den := by
      rw [← Int.dvd_natAbs, Int.ofNat_dvd]
      exact Nat.gcd_dvd_right _ _
    have e := Int.mul_ediv_add_emod r.num r.den
    rw [← Int.ofNat_dvd, Int.dvd_natAbs]
    generalize ((Nat.gcd r.den (r.num % r.den).natAbs : Nat) : Int) = g at d1 d2 ⊢
    rw [← e]
    exact Int.dvd_add (Int.dvd_trans d1 (Int.dvd_mul_right _ _)) d2
  rw [h] at dv
  exact Nat.dvd_one.mp dv
theorem frc_parts (r : Rat) : (frc r).num = r.num % r.den ∧ (frc r).den = r.den := by
  unfold frc
  rw [Rat.num_mkRat, Rat.den_mkRat, if_neg r.den_nz, if_neg r.den_nz, gcd_frc]
  refine ⟨?_, by rw [Nat.div_one]⟩
  show r.num % r.den / ((1 : Nat) : Int) = _
  omega
theorem frc_eq (r : Rat) : frc r = r - (flo r : Rat) := by
  unfold frc flo
  have hp : r.den ≠ 0 := r.den_nz
  have hq : (r.den : Rat) ≠ 0 := by exact_mod_cast hp
  have e := Int.mul_ediv_add_emod r.num r.den
  have e2 : ((r.num : Rat)) = (r.den : Rat) * ((r.num / (r.den : Int) : Int) : Rat) + ((r.num % (r.den : Int) : Int) : Rat) := by
    have := congrArg (fun z : Int => (z : Rat)) e
    simp only [Rat.intCast_add, Rat.intCast_mul, Rat.intCast_natCast] at this
    exact this.symm
  have e3 : r = (r.num : Rat) / (r.den : Rat) := by
    rw [← Rat.mkRat_eq_div]; exact (Rat.mkRat_self r).symm
  rw [Rat.mkRat_eq_div]
  generalize ((r.num / (r.den : Int) : Int) : Rat) = f at *
  generalize ((r.num % (r.den : Int) : Int) : Rat) = g at *
  have e4 : r = f + g / (r.den : Rat) := by rw [e3, e2]; grind
  grind
theorem frc_in (r : Rat) : 0 ≤ frc r ∧ frc r < 1 := by
  obtain ⟨a, b⟩ := frc_parts r
  have hp : (0 : Int) < r.den := by have := r.den_pos; omega
  have m0 := Int.emod_nonneg r.num (show (r.den : Int) ≠ 0 by omega)
  have m1 := Int.emod_lt_of_pos r.num hp
  refine ⟨Rat.num_nonneg.mp (by rw [a]; exact m0), ?_⟩
  rw [Rat.lt_iff, a, b]
  simpa using m1
theorem frR_frc (r : Rat) : (if r.num % (r.den : Int) = 0 then frR 0 else D.tup [.int (r.num % r.den), .int r.den]) = frR (frc r) := by
  obtain ⟨a, b⟩ := frc_parts r
  split
  · rename_i c
    congr 1
    apply Eq.symm
    exact Rat.num_eq_zero.mp (by rw [a]; exact c)
  · unfold frR
    rw [a, b]
theorem frc_sz {p q : Nat} {r : Rat} (h : Zs p q r) : Zs q q (frc r) := by
  obtain ⟨a, b⟩ := frc_parts r
  have hp : (0 : Int) < r.den := by have := r.den_pos; omega
  have m0 := Int.emod_nonneg r.num (show (r.den : Int) ≠ 0 by omega)
  have m1 := Int.emod_lt_of_pos r.num hp
  have := h.2
  exact ⟨by rw [a]; omega, by rw [b]; exact this⟩
/-! ### values of curves -/
def cub (a b x : Rat) : Rat := if x < 0 then 3 * (a * x) else if 1 < x then 1 + 3 * ((1 - b) * (x - 1)) else 3 * ((1 - x) * (1 - x) * (x * a)) + 3 * ((1 - x) * x * (x * b)) + x * (x * x)
def cvV (c : Cv) (x : Rat) (e : Bool) : Rat := match c with
  | .lin ps => lnV ps x
  | .cub a b => cub a b x
  | .stp n w => stp n w x e
/-! ### what is told -/
inductive Ph where
  | idle | before | active | after
deriving DecidableEq
def ph : Ph → Str
  | .idle => "idle"
  | .before => "before"
  | .active => "active"
  | .after => "after"
def sgn (s : Bool) : Int := if s then 1 else -1
def phsT (T : Tm) (t : Rat) (s : Bool) : Ph :=
  let e := edgT T
  if elt (.fin t) e.1 || (decide (EQ.fin t = e.1) && !s) then .before
  else if elt e.2.1 (.fin t) || (decide (EQ.fin t = e.2.1) && s) then .after else .active
def phs (T : Tm) (t : Option Rat) (s : Bool) : Ph := match t with
  | none => .idle
  | some t => phsT T t s
/-- the lesser one of a fraction and what may be endless -/
def mnE (x : Rat) : EQ → Rat
  | .fin y => if x < y then x else y
  | .inf => x
def mx0 (x : Rat) : Rat := if x < 0 then 0 else x
def fBack : Fw → Bool
  | .ba => true
  | .bo => true
  | _ => false
def fForw : Fw → Bool
  | .fo => true
  | .bo => true
  | _ => false
def actv (T : Tm) (t : Rat) (p : Ph) (f : Fw) : Option Rat := match p with
  | .idle => none
  | .active => some (t - T.delay)
  | .before => if fBack f then some (mx0 (t - T.delay)) else none
  | .after => if fForw f then some (mx0 (mnE (t - T.delay) (actOf T))) else none
def ovr (T : Tm) (p : Ph) (a : Rat) : EQ := match lenOf T with
  | .inf => .fin T.first
  | .fin l => if l = 0 then (if p = .before then .fin T.first else eadd (.fin T.first) T.many) else .fin (T.first + a / l)
def prt (T : Tm) (ov : EQ) : Rat := match ov with
  | .inf => frc T.first
  | .fin r => frc r
def sml (T : Tm) (p : Ph) (a : Rat) (ov : EQ) : Rat :=
  if prt T ov = 0 ∧ (p = .active ∨ p = .after) ∧ EQ.fin a = actOf T ∧ T.many ≠ .fin 0 then 1 else prt T ov
def itr (T : Tm) (p : Ph) (ov : EQ) (s : Rat) : Option Int := match ov with
  | .inf => none
  | .fin r => if p = .after ∧ T.many = .inf then none else some (flo r - b01 (decide (s = 1)))
def bck (w : Ww) (i : Option Int) : Bool := match w, i with
  | .no, _ => false
  | .re, _ => true
  | _, none => false
  | .al, some i => decide (i % 2 ≠ 0)
  | .ar, some i => decide ((i + 1) % 2 ≠ 0)
structure Told5 where
  act : Rat
  ov : EQ
  sim : Rat
  it : Option Int
  dir : Rat
  pro : Rat
def early (p : Ph) (b : Bool) : Bool := (decide (p = .before) && !b) || (decide (p = .after) && b)
def tld (T : Tm) (p : Ph) (a : Rat) : Told5 :=
  let ov := ovr T p a
  let s := sml T p a ov
  let i := itr T p ov s
  let b := bck T.way i
  let d := if b then 1 - s else s
  ⟨a, ov, s, i, d, cvV T.cv d (early p b)⟩
def told (T : Tm) (t : Option Rat) (s : Bool) : Ph × Option Told5 := match t with
  | none => (.idle, none)
  | some t => (phsT T t s, (actv T t (phsT T t s) T.fill).map (tld T (phsT T t s)))
def itD : Option Int → D
  | none => .str "endless"
  | some i => .int i
def t5D (x : Told5) : List D := [frR x.act, eD x.ov, frR x.sim, itD x.it, frR x.dir, frR x.pro]
def toldD (p : Ph × Option Told5) : D := match p.2 with
  | none => .tup [.str (ph p.1), .non, .non, .non, .non, .non, .non]
  | some x => .tup (.str (ph p.1) :: t5D x)
theorem mx0_e (x : Rat) : emax (.fin x) (.fin 0) = .fin (mx0 x) := by
  unfold emax elt mx0
  by_cases h : x < 0 <;> simp [h]
theorem mnE_e (x : Rat) (a : EQ) : emin (.fin x) a = .fin (mnE x a) := by
  unfold emin elt mnE
  cases a with
  | inf => simp
  | fin y => by_cases h : x < y <;> simp [h]
/-! ### sizes of timings, the delay apart -/
structure TmZ (d q m : Nat) (T : Tm) : Prop where
  delay : Zs d q T.delay
  behind : Sz m T.behind
  first : Sz m T.first
  first0 : 0 ≤ T.first
  many : SzE m T.many
  many0 : Pos T.many
  len : ∀ e, T.len = some e → SzE m e ∧ Pos e
  cv : CvOk m T.cv
theorem TmOk.z {m : Nat} {T : Tm} (o : TmOk m T) : TmZ m m m T := ⟨o.delay, o.behind, o.first, o.first0, o.many, o.many0, o.len, o.cv⟩
theorem CvOk.up {m n : Nat} {c : Cv} (o : CvOk m c) (l : m ≤ n) : CvOk n c := by
  cases c with
  | lin ps => exact ⟨o.1, o.2.1, fun p hp => ⟨(o.2.2 p hp).1.mono l, fun r hr => ((o.2.2 p hp).2 r hr).mono l⟩⟩
  | cub a b => exact ⟨o.1.mono l, o.2.mono l⟩
  | stp n w => exact o
theorem TmZ.ok {d q m n : Nat} {T : Tm} (o : TmZ d q m T) (h1 : d ≤ n) (h2 : q ≤ n) (h3 : m ≤ n) : TmOk n T :=
  ⟨o.delay.sz h1 h2, o.behind.mono h3, o.first.mono h3, o.first0, o.many.mono h3, o.many0, fun e he => ⟨(o.len e he).1.mono h3, (o.len e he).2⟩, o.cv.up h3⟩
theorem TmZ.lenOf {d q m : Nat} {T : Tm} (o : TmZ d q m T) (m0 : 0 < m) : SzE m (lenOf T) := by
  unfold Fq.lenOf
  cases e : T.len with
  | none => exact Sz.mono (show Sz 1 (0 : Rat) from ⟨by decide, by decide⟩) m0
  | some x => exact (o.len x e).1
theorem TmZ.act {d q m : Nat} {T : Tm} (o : TmZ d q m T) (m0 : 0 < m) : SzE (m + m) (actOf T) := (o.lenOf m0).mul o.many (by omega)
/-- the edges -/
theorem TmZ.edg {d q m : Nat} {T : Tm} (o : TmZ d q m T) (m0 : 0 < m) : ZsE (d + q + 4 * m + 4) (q + 3 * m) (edgT T).1 ∧ ZsE (d + q + 4 * m + 4) (q + 3 * m) (edgT T).2.1 ∧ ZsE (d + q + 4 * m + 4) (q + 3 * m) (edgT T).2.2 := by
  have z : ZsE (d + q + 4 * m + 4) (q + 3 * m) (.fin 0) := Zs.mono (show Zs 1 1 (0 : Rat) from ⟨by decide, by decide⟩) (by omega) (by omega)
  have dl : ZsE d q (.fin T.delay) := o.delay
  have bh : ZsE m m (.fin T.behind) := o.behind
  have ac := (o.act m0).zs
  have s1 := dl.add ac
  have s2 := bh.add s1
  have e : ZsE (d + q + 4 * m + 4) (q + 3 * m) (edgT T).2.2 := z.max (s2.mono (by omega) (by omega))
  exact ⟨z.max ((dl.mono (by omega) (by omega)).min e), z.max ((s1.mono (by omega) (by omega)).min e), e⟩
theorem mx0_sz {p q : Nat} {x : Rat} (h : Zs p q x) (q0 : 0 < q) (p0 : 0 < p) : Zs p q (mx0 x) := by
  unfold mx0
  split
  · exact Zs.mono (show Zs 1 1 (0 : Rat) from ⟨by decide, by decide⟩) (by omega) (by omega)
  · exact h
theorem actv_sz {d q m dt qt : Nat} {T : Tm} (o : TmZ d q m T) (m0 : 0 < m) {t : Rat} (zt : Zs dt qt t) {p : Ph} {f : Fw} {a : Rat} (e : actv T t p f = some a) : Zs (d + q + dt + qt + 2 * m + 1) (q + qt + 2 * m) a := by
  have z := (zt.sub o.delay).mono (show max (dt + q) (d + qt) + 1 ≤ d + q + dt + qt + 2 * m + 1 by omega) (show qt + q ≤ q + qt + 2 * m by omega)
  unfold actv at e
  cases p with
  | idle => cases e
  | active => cases e; exact z
  | before =>
    simp only at e
    split at e
    · cases e; exact mx0_sz z (by omega) (by omega)
    · cases e
  | after =>
    simp only at e
    split at e
    · cases e
      refine mx0_sz ?_ (by omega) (by omega)
      have ac := o.act m0
      unfold mnE
      cases h : actOf T with
      | inf => exact z
      | fin y =>
        rw [h] at ac
        simp only
        split
        · exact z
        · exact Zs.mono (show Zs (m + m) (m + m) y from ac) (by omega) (by omega)
    · cases e
theorem ovr_sz {d q m p q2 : Nat} {T : Tm} (o : TmZ d q m T) (m0 : 0 < m) {a : Rat} (za : Zs p q2 a) (f : Ph) : ZsE (p + q2 + 3 * m + 2) (q2 + 2 * m) (ovr T f a) := by
  have zf : ZsE m m (.fin T.first) := o.first
  have zl := o.lenOf m0
  unfold ovr
  cases h : Fq.lenOf T with
  | inf => exact zf.mono (by omega) (by omega)
  | fin l =>
    rw [h] at zl
    simp only
    split
    · split
      · exact zf.mono (by omega) (by omega)
      · exact (zf.add o.many.zs).mono (by omega) (by omega)
    · rename_i l0
      exact (Zs.add o.first.zs (za.div (show Zs m m l from zl) l0)).mono (by omega) (by omega)
theorem prt_sz {d q m p q2 : Nat} {T : Tm} (o : TmZ d q m T) {ov : EQ} (zo : ZsE p q2 ov) (l : m ≤ q2) : Sz q2 (prt T ov) := by
  unfold prt
  cases ov with
  | inf => exact (frc_sz o.first.zs).mono l l
  | fin r => exact frc_sz zo
theorem sml_sz {d q m p q2 : Nat} {T : Tm} (o : TmZ d q m T) {ov : EQ} (zo : ZsE p q2 ov) (l : m ≤ q2) (m0 : 0 < m) (f : Ph) (a : Rat) : Sz q2 (sml T f a ov) := by
  unfold sml
  split
  · exact Sz.mono (show Sz 1 (1 : Rat) from ⟨by decide, by decide⟩) (by omega)
  · exact prt_sz o zo l
theorem prt_in (T : Tm) (ov : EQ) : 0 ≤ prt T ov ∧ prt T ov < 1 := by unfold prt; cases ov <;> exact frc_in _
theorem sml_in (T : Tm) (ov : EQ) (f : Ph) (a : Rat) : 0 ≤ sml T f a ov ∧ sml T f a ov ≤ 1 := by
  unfold sml
  have := prt_in T ov
  split
  · constructor <;> grind
  · constructor <;> grind
/-! ### words -/
theorem ph_ok (p : Ph) : PySem.PyData.strOk (ph p) = true := by cases p <;> decide +kernel
theorem ph_eq (p r : Ph) (h : MH) : eqD h (.str (ph p)) (.str (ph r)) = some (decide (p = r)) := by
  rw [eqD_str h _ _ (ph_ok p) (ph_ok r)]
  cases p <;> cases r <;> exact congrArg some (by decide +kernel)
theorem ph_in (p : Ph) (h : MH) : cmpD .isin h (.str (ph p)) (.tup [.str "active", .str "after"]) = some (decide (p = .active) || decide (p = .after)) := by
  show inP (.str (ph p)) (.tuple [.str "active", .str "after"]) = _
  cases p <;> decide +kernel
theorem fw_back (f : Fw) (h : MH) : cmpD .isin h (.str (fw f)) (.tup [.str "backwards", .str "both"]) = some (fBack f) := by
  show inP (.str (fw f)) (.tuple [.str "backwards", .str "both"]) = _
  cases f <;> decide +kernel
theorem fw_forw (f : Fw) (h : MH) : cmpD .isin h (.str (fw f)) (.tup [.str "forwards", .str "both"]) = some (fForw f) := by
  show inP (.str (fw f)) (.tuple [.str "forwards", .str "both"]) = _
  cases f <;> decide +kernel
def wNR : Ww → Bool
  | .no => true
  | .re => true
  | _ => false
theorem ww_nr (w : Ww) (h : MH) : cmpD .isin h (.str (ww w)) (.tup [.str "normal", .str "reverse"]) = some (wNR w) := by
  show inP (.str (ww w)) (.tuple [.str "normal", .str "reverse"]) = _
  cases w <;> decide +kernel
def wIsN : Ww → Bool
  | .no => true
  | _ => false
def wIsR : Ww → Bool
  | .re => true
  | _ => false
def wIsA : Ww → Bool
  | .ar => true
  | _ => false
theorem ww_ok (w : Ww) : PySem.PyData.strOk (ww w) = true := by cases w <;> decide +kernel
theorem ww_n (w : Ww) (h : MH) : eqD h (.str (ww w)) (.str "normal") = some (wIsN w) := by
  rw [eqD_str h _ _ (ww_ok w) (by decide +kernel)]
  cases w <;> exact congrArg some (by decide +kernel)
theorem ww_r (w : Ww) (h : MH) : eqD h (.str (ww w)) (.str "reverse") = some (wIsR w) := by
  rw [eqD_str h _ _ (ww_ok w) (by decide +kernel)]
  cases w <;> exact congrArg some (by decide +kernel)
theorem ww_ar (w : Ww) (h : MH) : eqD h (.str (ww w)) (.str "alternate reverse") = some (wIsA w) := by
  rw [eqD_str h _ _ (ww_ok w) (by decide +kernel)]
  cases w <;> exact congrArg some (by decide +kernel)
theorem early_in (p : Ph) (b : Bool) (h : MH) : cmpD .isin h (.tup [.str (ph p), .int (if b then -1 else 1)]) (.tup [.tup [.str "before", .int 1], .tup [.str "after", .int (-1)]]) = some (early p b) := by
  cases p <;> cases b <;>
    first
    | (show inP (.tuple [.str "idle", .int 1]) (.tuple [.tuple [.str "before", .int 1], .tuple [.str "after", .int (-1)]]) = _; decide +kernel)
    | (show inP (.tuple [.str "idle", .int (-1)]) (.tuple [.tuple [.str "before", .int 1], .tuple [.str "after", .int (-1)]]) = _; decide +kernel)
    | (show inP (.tuple [.str "before", .int 1]) (.tuple [.tuple [.str "before", .int 1], .tuple [.str "after", .int (-1)]]) = _; decide +kernel)
    | (show inP (.tuple [.str "before", .int (-1)]) (.tuple [.tuple [.str "before", .int 1], .tuple [.str "after", .int (-1)]]) = _; decide +kernel)
    | (show inP (.tuple [.str "active", .int 1]) (.tuple [.tuple [.str "before", .int 1], .tuple [.str "after", .int (-1)]]) = _; decide +kernel)
    | (show inP (.tuple [.str "active", .int (-1)]) (.tuple [.tuple [.str "before", .int 1], .tuple [.str "after", .int (-1)]]) = _; decide +kernel)
    | (show inP (.tuple [.str "after", .int 1]) (.tuple [.tuple [.str "before", .int 1], .tuple [.str "after", .int (-1)]]) = _; decide +kernel)
    | (show inP (.tuple [.str "after", .int (-1)]) (.tuple [.tuple [.str "before", .int 1], .tuple [.str "after", .int (-1)]]) = _; decide +kernel)
/-! ### comprehensions with a test, over a list -/
theorem lc_filt {α : Type} (em ge : α → D) (p : α → Bool) {src : Src} {f : D → MH → Option (Option D × MH)} {n : Nat} {h : MH} {X : Option (List D × MH)} (e : lcL src f n 0 [] h = X) (xs : List α) (l : xs.length < n)
    (hs : ∀ i, srcAt h src i = some ((xs.map em)[i]?)) (hf : ∀ x ∈ xs, f (em x) h = some (if p x then some (ge x) else none, h)) : X = some ((xs.filter p).map ge, h) := by
  have key : ∀ (r : List α) (i : Nat) (acc : List D), xs.drop i = r → i + r.length = xs.length → ∀ n, r.length < n → lcL src f n i acc h = some (acc ++ (r.filter p).map ge, h) := by
    intro r
    induction r with
    | nil =>
      intro i acc ed ei n hn
      cases n with
      | zero => omega
      | succ n =>
        show (srcAt h src i).bind _ = _
        rw [hs, List.getElem?_eq_none (by rw [List.length_map]; simp at ei; omega)]
        simp
    | cons x r ih =>
      intro i acc ed ei n hn
      have li : i < xs.length := by rw [List.length_cons] at ei; omega
      have ex : xs[i]? = some x := by
        have := congrArg List.head? ed
        rw [List.head?_drop] at this
        exact this
      have ed2 : xs.drop (i + 1) = r := by
        rw [← List.tail_drop, ed]; rfl
      have ei2 : i + 1 + r.length = xs.length := by rw [List.length_cons] at ei; omega
      cases n with
      | zero => omega
      | succ n =>
        rw [List.length_cons] at hn
        show (srcAt h src i).bind _ = _
        rw [hs, List.getElem?_map, ex]
        show (f (em x) h).bind _ = _
        rw [hf x (List.mem_of_getElem? ex)]
        cases q : p x with
        | true =>
          show lcL src f n (i + 1) (acc ++ [ge x]) h = _
          rw [ih (i + 1) _ ed2 ei2 n (by omega), List.filter_cons, q]
          simp
        | false =>
          show lcL src f n (i + 1) acc h = _
          rw [ih (i + 1) _ ed2 ei2 n (by omega), List.filter_cons, q]
          simp
  rw [← e, key xs 0 [] rfl (by omega) n l, List.nil_append]
def finE : EQ → Option Rat
  | .fin r => some r
  | .inf => none
theorem fin_map : ∀ xs : List EQ, (xs.filter fun x => !decide (x = .inf)).map eD = (xs.filterMap finE).map frR
  | [] => rfl
  | .inf :: r => fin_map r
  | .fin x :: r => by
    show eD (.fin x) :: ((r.filter fun x => !decide (x = .inf)).map eD) = frR x :: (r.filterMap finE).map frR
    rw [fin_map r]; rfl
theorem fin_sz {p q : Nat} {xs : List EQ} (h : ∀ x ∈ xs, ZsE p q x) : ∀ r ∈ xs.filterMap finE, Zs p q r := by
  intro r hr
  obtain ⟨x, hx, e⟩ := List.mem_filterMap.mp hr
  have := h x hx
  cases x with
  | inf => cases e
  | fin y => cases e; exact this
theorem fin_mem {xs : List EQ} {r : Rat} : r ∈ xs.filterMap finE ↔ EQ.fin r ∈ xs := by
  rw [List.mem_filterMap]
  constructor
  · rintro ⟨x, hx, e⟩
    cases x with
    | inf => cases e
    | fin y => cases e; exact hx
  · intro h; exact ⟨_, h, rfl⟩
def isFin : Option EQ → Bool
  | some (.fin _) => true
  | _ => false
theorem notin_NE (h : MH) (o : Option EQ) : cmpD .notin h (lD o) (.tup [.non, .str "endless"]) = some (isFin o) := by
  cases o with
  | none =>
    show (inP .none (.tuple [.none, .str "endless"])).map (!·) = _
    decide +kernel
  | some e => cases e with
    | inf =>
      show (inP (.str "endless") (.tuple [.none, .str "endless"])).map (!·) = _
      decide +kernel
    | fin r =>
      show (inP (pf r) (.tuple [.none, .str "endless"])).map (!·) = _
      have s1 : SeqAt.shaped (pf r) = true := shaped_e (.fin r)
      have s2 : SeqAt.shaped (.tuple [.none, .str "endless"]) = true := by decide +kernel
      show (if (SeqAt.shaped (pf r) && SeqAt.shaped (.tuple [.none, .str "endless"])) = true then some (PyData.eqv .none (pf r) || (PyData.eqv (.str "endless") (pf r) || false)) else none).map (!·) = _
      rw [s1, s2, if_pos (by rfl)]
      unfold pf
      simp [PyData.eqv, isFin]
theorem filt_first {N m : Nat} {p : Nat → Bool} (h0 : ∀ j, j < m → p j = false) (h1 : p m = true) (hm : m < N) : ((List.range N).filter p)[0]? = some m := by
  rw [← List.head?_eq_getElem?, List.head?_filter, List.find?_range_eq_some]
  exact ⟨h1, List.mem_range.mpr hm, fun j hj => by rw [h0 j hj]; rfl⟩
theorem LastT.drop {P R : OL} (h : LastT (P ++ R)) (n : R ≠ []) : LastT R := by
  obtain ⟨z, e⟩ := h
  refine ⟨z, ?_⟩
  rw [List.getLast?_append] at e
  cases q : R.getLast? with
  | none => rw [List.getLast?_eq_none_iff] at q; exact absurd q n
  | some w => rw [q] at e; simpa using e
end Fq

set_option maxHeartbeats 4000000
/-! Fq: what is told, as text and as data. -/
namespace Fq
open PySem L2
/-! ### data that can be shown and compared -/
structure Rp (x : D) (d : PyData) : Prop where
  pd : pdI x = some d
  sh : d.showable = true
  nd : d.hasDict = false
  dp : d.depth ≤ 2
  len : d.shown.length ≤ 4000
  ok : PySem.PyData.strOk d.shown = true
  lay : d.canLay0 = true
  eqv : PyData.eqv d d = true
theorem rp_e (a : EQ) (h : SzE 1900 a) : Rp (eD a) (eP a) := by
  obtain ⟨a1, a2, a3, a4⟩ := shown_e a h
  obtain ⟨l1, l2⟩ := lay_e a
  exact ⟨pdI_e a, a1, a2, by omega, a3, a4, l1, by rw [eqv_e]; simp⟩
theorem rp_fr (r : Rat) (h : Sz 1900 r) : Rp (frR r) (pf r) := rp_e (.fin r) h
theorem rp_non : Rp .non .none := ⟨rfl, rfl, rfl, by decide, by decide +kernel, by decide +kernel, rfl, rfl⟩
theorem rp_int (i : Int) (h : i.natAbs < 2 ^ 1900) : Rp (.int i) (.int i) := by
  obtain ⟨a, b, c⟩ := int_shown i h
  exact ⟨rfl, a, rfl, by rw [PyData.depth]; decide, by omega, c, rfl, by rw [PyData.eqv]; simp⟩
theorem rp_ph (p : Ph) : Rp (.str (ph p)) (.str (ph p)) := by
  cases p <;> exact ⟨rfl, rfl, rfl, by decide, by decide +kernel, by decide +kernel, by decide +kernel, by rw [PyData.eqv]; simp⟩
theorem rps {ps : List (D × PyData)} (h : ∀ p ∈ ps, Rp p.1 p.2) : pdIs (ps.map (·.1)) = some (ps.map (·.2)) ∧ PyData.showableAll (ps.map (·.2)) = true ∧ PyData.hasDictAll (ps.map (·.2)) = false ∧ PyData.depthAll (ps.map (·.2)) ≤ 2 ∧
    ((PyData.shownAll (ps.map (·.2))).map (·.length)).sum ≤ 4000 * ps.length ∧ (PyData.shownAll (ps.map (·.2))).length = ps.length ∧ (∀ t ∈ PyData.shownAll (ps.map (·.2)), PySem.PyData.strOk t = true) ∧ PyData.canLayAll0 (ps.map (·.2)) = true ∧ PyData.eqvAll (ps.map (·.2)) (ps.map (·.2)) = true := by
  induction ps with
  | nil => exact ⟨rfl, rfl, rfl, by decide, by decide, rfl, fun t m => (by cases m), rfl, rfl⟩
  | cons p r ih =>
    obtain ⟨b1, b2, b3, b4, b5, b6, b7, b8, b9⟩ := ih fun x m => h x (List.mem_cons_of_mem _ m)
    have a := h p List.mem_cons_self
    refine ⟨?_, ?_, ?_, ?_, ?_, ?_, ?_, ?_, ?_⟩
    · show (pdI p.1).bind _ = _
      rw [a.pd, ob, b1]; rfl
    · rw [List.map_cons, PyData.showableAll, a.sh, b2]; rfl
    · rw [List.map_cons, PyData.hasDictAll, a.nd, b3]; rfl
    · rw [List.map_cons, PyData.depthAll]; have := a.dp; omega
    · rw [List.map_cons, PyData.shownAll, List.map_cons, List.sum_cons, List.length_cons]; have := a.len; omega
    · rw [List.map_cons, PyData.shownAll, List.length_cons, b6, List.length_cons]
    · intro t m
      rw [List.map_cons, PyData.shownAll] at m
      rcases List.mem_cons.mp m with rfl | m
      · exact a.ok
      · exact b7 t m
    · rw [List.map_cons, PyData.canLayAll0, a.lay, b8]; rfl
    · rw [List.map_cons, PyData.eqvAll, a.eqv, b9]; rfl
theorem rp_tup {ps : List (D × PyData)} (hp : ∀ p ∈ ps, Rp p.1 p.2) (l : ps.length ≤ 100) (h : MH) : ∃ z : Str, biD .repr [.tup (ps.map (·.1))] h = some (.str z, h) ∧ eqD h (.str z) (.str z) = some true ∧ eqD h (.tup (ps.map (·.1))) (.tup (ps.map (·.1))) = some true := by
  obtain ⟨b1, b2, b3, b4, b5, b6, b7, b8, b9⟩ := rps hp
  have ok : PySem.PyData.strOk (PyData.tuple (ps.map (·.2))).shown = true := strOk_tuple b7
  have len : (PyData.tuple (ps.map (·.2))).shown.length ≤ LIM := by
    have := tupleText_len_le (PyData.shownAll (ps.map (·.2)))
    rw [b6] at this
    show (tupleText (PyData.shownAll (ps.map (·.2)))).length ≤ 1000000
    omega
  have pt : pdT h (.tup (ps.map (·.1))) = some (.tuple (ps.map (·.2))) := by
    show (pdIs (ps.map (·.1))).map _ = _
    rw [b1]; rfl
  refine ⟨(PyData.tuple (ps.map (·.2))).shown, ?_, ?_, ?_⟩
  · have e : biD .repr [.tup (ps.map (·.1))] h = (pdT h (.tup (ps.map (·.1)))).bind fun d => if shows d = true then some (.str d.shown, h) else none := rfl
    rw [e, pt, ob]
    have sh : shows (.tuple (ps.map (·.2))) = true := by
      show (true && PyData.showable (.tuple (ps.map (·.2))) && !PyData.hasDict (.tuple (ps.map (·.2))) && decide ((PyData.tuple (ps.map (·.2))).depth ≤ 60) && decide ((PyData.tuple (ps.map (·.2))).shown.length ≤ LIM)) = true
      rw [PyData.showable, b2, PyData.hasDict, b3, PyData.depth, decide_eq_true (show PyData.depthAll (ps.map (·.2)) + 1 ≤ 60 by omega), decide_eq_true (show (PyData.tuple (ps.map (·.2))).shown.length ≤ LIM from len)]
      rfl
    rw [if_pos sh]
  · rw [eqD_str h _ _ ok ok]
    simp
  · have s : SeqAt.shaped (.tuple (ps.map (·.2))) = true := by
      unfold SeqAt.shaped
      rw [PyData.canLay0, b8, PyData.depth, decide_eq_true (show PyData.depthAll (ps.map (·.2)) + 1 ≤ 64 by omega)]
      rfl
    unfold eqD
    rw [pt, ob, ob, s, if_pos (by rfl), PyData.eqv, b9]
/-! ### sizes of values -/
theorem cub_frac (a b x : Rat) : 3 * ((1 - x) * (1 - x) * (x * a)) + 3 * ((1 - x) * x * (x * b)) + x * (x * x) =
    mkRat (3 * ((x.den - x.num) * (x.den - x.num) * (x.num * (a.num * b.den))) + 3 * ((x.den - x.num) * x.num * (x.num * (b.num * a.den))) + x.num * (x.num * (x.num * (a.den * b.den)))) (x.den * (x.den * (x.den * (a.den * b.den)))) := by
  rw [Rat.mkRat_eq_div]
  have dx : (x.den : Rat) ≠ 0 := by exact_mod_cast x.den_nz
  have da : (a.den : Rat) ≠ 0 := by exact_mod_cast a.den_nz
  have db : (b.den : Rat) ≠ 0 := by exact_mod_cast b.den_nz
  have ex : x = (x.num : Rat) / (x.den : Rat) := by rw [← Rat.mkRat_eq_div]; exact (Rat.mkRat_self x).symm
  have ea : a = (a.num : Rat) / (a.den : Rat) := by rw [← Rat.mkRat_eq_div]; exact (Rat.mkRat_self a).symm
  have eb : b = (b.num : Rat) / (b.den : Rat) := by rw [← Rat.mkRat_eq_div]; exact (Rat.mkRat_self b).symm
  simp only [Rat.intCast_add, Rat.intCast_mul, Rat.intCast_sub, Rat.intCast_natCast, Rat.natCast_mul]
  have e3 : ((3 : Int) : Rat) = 3 := rfl
  rw [e3]
  generalize (x.num : Rat) = xn at *
  generalize (x.den : Rat) = xd at *
  generalize (a.num : Rat) = an at *
  generalize (a.den : Rat) = ad at *
  generalize (b.num : Rat) = bn at *
  generalize (b.den : Rat) = bd at *
  rw [ex, ea, eb]
  grind
theorem pow_mul_lt {a b c d : Nat} (h1 : a < 2 ^ c) (h2 : b < 2 ^ d) : a * b < 2 ^ (c + d) := mul_pow_lt h1 h2
theorem cub_sz {a b x : Rat} {m k : Nat} (ha : Sz m a) (hb : Sz m b) (hx : Sz k x) (h0 : 0 ≤ x) (h1 : x ≤ 1) : Sz (3 * k + 2 * m + 6) (cub a b x) := by
  have n0 := Rat.num_nonneg.mpr h0
  have n1 : x.num ≤ x.den := by
    have h2 : ¬ (1 : Rat) < x := by grind
    rw [Rat.lt_iff] at h2
    have h2 : ¬ (1 : Int) * x.den < x.num * ((1 : Nat) : Int) := h2
    omega
  unfold cub
  rw [if_neg (by grind), if_neg (by grind), cub_frac]
  have dl : (x.den - x.num : Int).natAbs < 2 ^ k := by have := hx.2; omega
  have nl := hx.1
  have d3 : x.den * (x.den * (x.den * (a.den * b.den))) < 2 ^ (k + (k + (k + (m + m)))) := pow_mul_lt hx.2 (pow_mul_lt hx.2 (pow_mul_lt hx.2 (pow_mul_lt ha.2 hb.2)))
  have t1 : ((x.den - x.num) * (x.den - x.num) * (x.num * (a.num * (b.den : Int))) : Int).natAbs < 2 ^ (k + k + (k + (m + m))) := by
    rw [Int.natAbs_mul, Int.natAbs_mul, Int.natAbs_mul, Int.natAbs_mul]
    exact pow_mul_lt (pow_mul_lt dl dl) (pow_mul_lt nl (pow_mul_lt ha.1 hb.2))
  have t2 : ((x.den - x.num) * x.num * (x.num * (b.num * (a.den : Int))) : Int).natAbs < 2 ^ (k + k + (k + (m + m))) := by
    rw [Int.natAbs_mul, Int.natAbs_mul, Int.natAbs_mul, Int.natAbs_mul]
    exact pow_mul_lt (pow_mul_lt dl nl) (pow_mul_lt nl (pow_mul_lt hb.1 ha.2))
  have t3 : (x.num * (x.num * (x.num * ((a.den : Int) * b.den))) : Int).natAbs < 2 ^ (k + (k + (k + (m + m)))) := by
    rw [Int.natAbs_mul, Int.natAbs_mul, Int.natAbs_mul, Int.natAbs_mul]
    exact pow_mul_lt nl (pow_mul_lt nl (pow_mul_lt nl (pow_mul_lt ha.2 hb.2)))
  have e1 : k + k + (k + (m + m)) = 3 * k + 2 * m := by omega
  have e2 : k + (k + (k + (m + m))) = 3 * k + 2 * m := by omega
  rw [e1] at t1 t2
  rw [e2] at t3 d3
  have p6 : 2 ^ (3 * k + 2 * m + 6) = 64 * 2 ^ (3 * k + 2 * m) := by rw [Nat.pow_add]; omega
  have nz : x.den * (x.den * (x.den * (a.den * b.den))) ≠ 0 := Nat.mul_ne_zero x.den_nz (Nat.mul_ne_zero x.den_nz (Nat.mul_ne_zero x.den_nz (Nat.mul_ne_zero a.den_nz b.den_nz)))
  refine Sz.mk nz ?_ (by omega)
  generalize ((x.den - x.num) * (x.den - x.num) * (x.num * (a.num * (b.den : Int))) : Int) = u1 at *
  generalize ((x.den - x.num) * x.num * (x.num * (b.num * (a.den : Int))) : Int) = u2 at *
  generalize (x.num * (x.num * (x.num * ((a.den : Int) * b.den))) : Int) = u3 at *
  omega
theorem cvV_sz {c : Cv} {m k : Nat} {x : Rat} (m0 : 0 < m) (o : CvOk m c) (hx : Sz k x) (h0 : 0 ≤ x) (h1 : x ≤ 1) (e : Bool) : Sz (3 * k + 12 * m + 100) (cvV c x e) := by
  cases c with
  | lin ps =>
    obtain ⟨nn, ln, op⟩ := o
    have zP := setP_sz m0 ln op
    have lP := setP_len ps
    refine (linV_sz zP ?_ hx).mono (by omega)
    intro z
    rw [z] at lP
    exact nn (List.length_eq_zero_iff.mp lP.symm)
  | cub a b => exact (cub_sz o.1 o.2 hx h0 h1).mono (by omega)
  | stp n w => exact (Sz_stp e o.1 hx o.2 (by decide)).mono (by omega)
theorem CvOk.ln {m : Nat} {c : Cv} (o : CvOk m c) : ∀ ps, c = .lin ps → ps.length < 1000 := by
  intro ps e
  subst e
  exact o.2.1
/-! ### what is told, in its size -/
structure ToldZ (n : Nat) (x : Told5) : Prop where
  act : Sz n x.act
  ov : SzE n x.ov
  sim : Sz n x.sim
  sim0 : 0 ≤ x.sim
  sim1 : x.sim ≤ 1
  it : ∀ i, x.it = some i → i.natAbs < 2 ^ n
  dir : Sz n x.dir
  dir0 : 0 ≤ x.dir
  dir1 : x.dir ≤ 1
  pro : Sz n x.pro
theorem flo_sz {p q : Nat} {r : Rat} (h : Zs p q r) : (flo r).natAbs < 2 ^ (p + 1) := by
  have := flo_le r
  have := h.1
  have := two_mul_pow p
  have := Nat.two_pow_pos p
  omega
theorem told_sz {d q m dt qt n : Nat} {T : Tm} (o : TmZ d q m T) (m0 : 0 < m) {t : Rat} (zt : Zs dt qt t) {p : Ph} {a : Rat} (ha : actv T t p T.fill = some a) (l1 : d + q + dt + qt + 2 * m + 1 + (q + qt + 2 * m) + 3 * m + 4 ≤ n) (l2 : 3 * (q + qt + 4 * m + 2) + 12 * m + 100 ≤ n) : ToldZ n (tld T p a) := by
  have za := actv_sz o m0 zt ha
  have zo := ovr_sz o m0 za p
  have zs := sml_sz o zo (by omega) m0 p a
  have si := sml_in T (ovr T p a) p a
  have zd : ∀ b : Bool, Sz (q + qt + 4 * m + 2) (if b = true then 1 - sml T p a (ovr T p a) else sml T p a (ovr T p a)) := by
    intro b
    split
    · exact (Sz.sub (show Sz 1 (1 : Rat) from ⟨by decide, by decide⟩) zs).mono (by omega)
    · exact zs.mono (by omega)
  have di : ∀ b : Bool, 0 ≤ (if b = true then 1 - sml T p a (ovr T p a) else sml T p a (ovr T p a)) ∧ (if b = true then 1 - sml T p a (ovr T p a) else sml T p a (ovr T p a)) ≤ 1 := by
    intro b
    split
    · constructor <;> grind
    · exact si
  refine ⟨za.sz (by omega) (by omega), zo.sz (by omega) (by omega), zs.mono (by omega), si.1, si.2, ?_, (zd _).mono (by omega), (di _).1, (di _).2, (cvV_sz m0 o.cv (zd _) (di _).1 (di _).2 _).mono (by omega)⟩
  intro i hi
  have hi : itr T p (ovr T p a) (sml T p a (ovr T p a)) = some i := hi
  unfold itr at hi
  cases h : ovr T p a with
  | inf => rw [h] at hi; cases hi
  | fin r =>
    rw [h] at hi zo
    simp only at hi
    split at hi
    · cases hi
    · cases hi
      have fz := flo_sz (show Zs _ _ r from zo)
      have b1 : (b01 (decide (sml T p a (.fin r) = 1))).natAbs ≤ 1 := by unfold b01; split <;> decide
      have l3 : (flo r - b01 (decide (sml T p a (.fin r) = 1))).natAbs ≤ (flo r).natAbs + 1 := by omega
      have l4 := pow_le2 (show d + q + dt + qt + 2 * m + 1 + (q + qt + 2 * m) + 3 * m + 4 ≤ n from l1)
      have l5 : 2 ^ (d + q + dt + qt + 2 * m + 1 + (q + qt + 2 * m) + 3 * m + 4) = 2 * 2 ^ (d + q + dt + qt + 2 * m + 1 + (q + qt + 2 * m) + 3 * m + 2 + 1) := by rw [← Nat.pow_succ']
      have l6 := Nat.two_pow_pos (d + q + dt + qt + 2 * m + 1 + (q + qt + 2 * m) + 3 * m + 2 + 1)
      omega
def itP : Option Int → PyData
  | none => .str "endless"
  | some i => .int i
theorem rp_it (i : Option Int) (h : ∀ j, i = some j → j.natAbs < 2 ^ 1900) : Rp (itD i) (itP i) := by
  cases i with
  | none => exact rp_e .inf trivial
  | some j => exact rp_int j (h j rfl)
/-- the parts of what is told -/
def tdP (p : Ph × Option Told5) : List (D × PyData) := match p.2 with
  | none => [(.str (ph p.1), .str (ph p.1)), (.non, .none), (.non, .none), (.non, .none), (.non, .none), (.non, .none), (.non, .none)]
  | some x => [(.str (ph p.1), .str (ph p.1)), (frR x.act, pf x.act), (eD x.ov, eP x.ov), (frR x.sim, pf x.sim), (itD x.it, itP x.it), (frR x.dir, pf x.dir), (frR x.pro, pf x.pro)]
theorem toldD_eq (p : Ph × Option Told5) : toldD p = .tup ((tdP p).map (·.1)) := by
  obtain ⟨p, x⟩ := p
  cases x <;> rfl
theorem tdP_ok (p : Ph × Option Told5) (h : ∀ x, p.2 = some x → ToldZ 1900 x) : ∀ y ∈ tdP p, Rp y.1 y.2 := by
  obtain ⟨p, x⟩ := p
  cases x with
  | none =>
    intro y hy
    simp only [tdP, List.mem_cons, List.not_mem_nil, or_false] at hy
    rcases hy with rfl | rfl | rfl | rfl | rfl | rfl | rfl
    · exact rp_ph p
    all_goals exact rp_non
  | some x =>
    have z := h x rfl
    intro y hy
    simp only [tdP, List.mem_cons, List.not_mem_nil, or_false] at hy
    rcases hy with rfl | rfl | rfl | rfl | rfl | rfl | rfl
    · exact rp_ph p
    · exact rp_fr _ z.act
    · exact rp_e _ z.ov
    · exact rp_fr _ z.sim
    · exact rp_it _ z.it
    · exact rp_fr _ z.dir
    · exact rp_fr _ z.pro
theorem tdP_len (p : Ph × Option Told5) : (tdP p).length = 7 := by
  obtain ⟨p, x⟩ := p
  cases x <;> rfl
/-- what is told can be shown, and is what it is -/
theorem told_repr (p : Ph × Option Told5) (hz : ∀ x, p.2 = some x → ToldZ 1900 x) (h : MH) : ∃ z : Str, biD .repr [toldD p] h = some (.str z, h) ∧ eqD h (.str z) (.str z) = some true ∧ eqD h (toldD p) (toldD p) = some true := by
  rw [toldD_eq]
  exact rp_tup (tdP_ok p hz) (by rw [tdP_len]; decide) h
end Fq

set_option maxHeartbeats 4000000
/-! Fq: what is computed on a heap of its own is computed above any heap. -/
namespace Fq
open PySem L2
mutual
def shD (n : Nat) : D → D
  | .non => .non
  | .bl b => .bl b
  | .int i => .int i
  | .str s => .str s
  | .tup xs => .tup (shDs n xs)
  | .ref m => .ref (n + m)
  | .frl xs => .frl (shDs n xs)
  | .dct ks ws => .dct ks (shDs n ws)
def shDs (n : Nat) : List D → List D
  | [] => []
  | d :: r => shD n d :: shDs n r
end
mutual
def noRef : D → Bool
  | .non => true
  | .bl _ => true
  | .int _ => true
  | .str _ => true
  | .tup xs => noRefs xs
  | .ref _ => false
  | .frl _ => false
  | .dct _ _ => false
def noRefs : List D → Bool
  | [] => true
  | d :: r => noRef d && noRefs r
end
mutual
theorem shD_no (n : Nat) : ∀ d : D, noRef d = true → shD n d = d
  | .non, _ => rfl
  | .bl _, _ => rfl
  | .int _, _ => rfl
  | .str _, _ => rfl
  | .tup xs, h => by
    show D.tup (shDs n xs) = _
    rw [shDs_no n xs h]
  | .ref _, h => by cases h
  | .frl _, h => by cases h
  | .dct _ _, h => by cases h
theorem shDs_no (n : Nat) : ∀ xs : List D, noRefs xs = true → shDs n xs = xs
  | [], _ => rfl
  | d :: r, h => by
    have h : (noRef d && noRefs r) = true := h
    rw [Bool.and_eq_true] at h
    show shD n d :: shDs n r = _
    rw [shD_no n d h.1, shDs_no n r h.2]
end
theorem shDs_map (n : Nat) : ∀ xs : List D, shDs n xs = xs.map (shD n)
  | [] => rfl
  | d :: r => by show shD n d :: shDs n r = _; rw [shDs_map n r]; rfl
theorem shDs_len (n : Nat) (xs : List D) : (shDs n xs).length = xs.length := by rw [shDs_map, List.length_map]
theorem shDs_app (n : Nat) (xs ys : List D) : shDs n (xs ++ ys) = shDs n xs ++ shDs n ys := by rw [shDs_map, shDs_map, shDs_map, List.map_append]
theorem shDs_get (n : Nat) (xs : List D) (i : Nat) : (shDs n xs)[i]? = (xs[i]?).map (shD n) := by rw [shDs_map, List.getElem?_map]
theorem shDs_nil {n : Nat} {xs : List D} : shDs n xs = [] ↔ xs = [] := by rw [shDs_map, List.map_eq_nil_iff]
/-- the heap above p -/
def up (p h : MH) : MH := p ++ h.map (shDs p.length)
theorem up_len (p h : MH) : (up p h).length = p.length + h.length := by unfold up; rw [List.length_append, List.length_map]
theorem up_get (p h : MH) (n : Nat) : (up p h)[p.length + n]? = (h[n]?).map (shDs p.length) := by
  unfold up
  rw [List.getElem?_append_right (by omega), List.getElem?_map, show p.length + n - p.length = n by omega]
theorem up_app (p h x : MH) : up p (h ++ x) = up p h ++ x.map (shDs p.length) := by unfold up; rw [List.map_append, List.append_assoc]
theorem up_one (p h : MH) (x : List D) : up p (h ++ [x]) = up p h ++ [shDs p.length x] := up_app p h [x]
theorem up_set (p h : MH) (n : Nat) (x : List D) : up p (h.set n x) = (up p h).set (p.length + n) (shDs p.length x) := by
  unfold up
  rw [List.map_set, List.set_append_right _ _ (by omega), show p.length + n - p.length = n by omega]
theorem up_new (p h : MH) : D.ref (up p h).length = shD p.length (.ref h.length) := by rw [up_len]; rfl
/-! ### what is read -/
mutual
theorem pdI_sh (n : Nat) : ∀ d : D, pdI (shD n d) = pdI d
  | .non => rfl
  | .bl _ => rfl
  | .int _ => rfl
  | .str _ => rfl
  | .tup xs => by show (pdIs (shDs n xs)).map _ = (pdIs xs).map _; rw [pdIs_sh n xs]
  | .ref _ => rfl
  | .frl _ => rfl
  | .dct _ _ => rfl
theorem pdIs_sh (n : Nat) : ∀ xs : List D, pdIs (shDs n xs) = pdIs xs
  | [] => rfl
  | d :: r => by
    show (pdI (shD n d)).bind _ = (pdI d).bind _
    rw [pdI_sh n d]
    congr 1
    funext a
    show (pdIs (shDs n r)).map _ = (pdIs r).map _
    rw [pdIs_sh n r]
end
variable {p : MH}
theorem pdT_sh (h : MH) (d : D) : pdT (up p h) (shD p.length d) = pdT h d := by
  cases d with
  | ref n =>
    show ((up p h)[p.length + n]?).bind _ = (h[n]?).bind _
    rw [up_get]
    cases h[n]? with
    | none => rfl
    | some xs => show (pdIs (shDs _ xs)).map _ = (pdIs xs).map _; rw [pdIs_sh]
  | non => rfl
  | bl _ => rfl
  | int _ => rfl
  | str _ => rfl
  | tup xs => exact pdI_sh _ (.tup xs)
  | frl _ => rfl
  | dct _ _ => rfl
theorem eqD_sh (h : MH) (x y : D) : eqD (up p h) (shD p.length x) (shD p.length y) = eqD h x y := by unfold eqD; rw [pdT_sh, pdT_sh]
theorem inD_sh (h : MH) (x y : D) : inD (up p h) (shD p.length x) (shD p.length y) = inD h x y := by unfold inD; rw [pdT_sh, pdT_sh]
theorem cmpD_sh (o : CO) (h : MH) (x y : D) {b : Bool} (e : cmpD o h x y = some b) : cmpD o (up p h) (shD p.length x) (shD p.length y) = some b := by
  cases o with
  | eq => exact (eqD_sh h x y).trans e
  | ne => show (eqD _ _ _).map _ = _; rw [eqD_sh]; exact e
  | isin => exact (inD_sh h x y).trans e
  | notin => show (inD _ _ _).map _ = _; rw [inD_sh]; exact e
  | lt => cases x <;> first | (cases e; done) | (cases y <;> first | (cases e; done) | exact e)
  | le => cases x <;> first | (cases e; done) | (cases y <;> first | (cases e; done) | exact e)
  | gt => cases x <;> first | (cases e; done) | (cases y <;> first | (cases e; done) | exact e)
  | ge => cases x <;> first | (cases e; done) | (cases y <;> first | (cases e; done) | exact e)
theorem itemsD_sh (h : MH) (x : D) : itemsD (up p h) (shD p.length x) = (itemsD h x).map (shDs p.length) := by
  cases x with
  | ref n => exact up_get p h n
  | _ => rfl
theorem isNone_sh (n : Nat) (x : D) : isNone (shD n x) = isNone x := by cases x <;> rfl
theorem tyn_sh (n : Nat) (x : D) : tyn (shD n x) = tyn x := by cases x <;> rfl
theorem isL_sh (n : Nat) (x : D) : isL (shD n x) = isL x := by cases x <;> rfl
theorem bools_sh (n : Nat) : ∀ xs : List D, bools (shDs n xs) = bools xs
  | [] => rfl
  | d :: r => by
    cases d <;> first | rfl | (show (bools (shDs n r)).map _ = (bools r).map _; rw [bools_sh n r])
theorem intsD_sh (n : Nat) : ∀ xs : List D, intsD (shDs n xs) = intsD xs
  | [] => rfl
  | d :: r => by
    cases d <;> first | rfl | (show (intsD (shDs n r)).map _ = (intsD r).map _; rw [intsD_sh n r])
theorem atI_sh (n : Nat) (xs : List D) (i : Int) : atI (shDs n xs) i = (atI xs i).map (shD n) := by
  unfold atI
  rw [shDs_len]
  cases ixN xs.length i with
  | none => rfl
  | some j => exact shDs_get n xs j
theorem lkD_sh (n : Nat) : ∀ (ks : List Str) (ws : List D) (s : Str), lkD ks (shDs n ws) s = (lkD ks ws s).map (shD n)
  | [], _, _ => rfl
  | _ :: _, [], _ => rfl
  | k :: ks, w :: ws, s => by
    show (if k = s then some (shD n w) else lkD ks (shDs n ws) s) = _
    show _ = (if k = s then some w else lkD ks ws s).map _
    split
    · rfl
    · exact lkD_sh n ks ws s
theorem idxD_sh (h : MH) (x y : D) {d : D} (e : idxD h x y = some d) : idxD (up p h) (shD p.length x) (shD p.length y) = some (shD p.length d) := by
  cases y with
  | int i =>
    have e : (itemsD h x).bind (fun xs => atI xs i) = some d := e
    show (itemsD _ _).bind (fun xs => atI xs i) = _
    rw [itemsD_sh]
    cases q : itemsD h x with
    | none => rw [q] at e; cases e
    | some xs => rw [q] at e; show atI (shDs _ xs) i = _; rw [atI_sh]; exact congrArg _ e
  | str s =>
    cases x with
    | dct ks ws => show lkD ks (shDs _ ws) s = _; rw [lkD_sh]; exact congrArg _ e
    | _ => cases e
  | _ => cases e
theorem getD3_sh (n : Nat) (x y z : D) {d : D} (e : getD3 x y z = some d) : getD3 (shD n x) (shD n y) (shD n z) = some (shD n d) := by
  cases x with
  | dct ks ws =>
    cases y with
    | str s =>
      cases e
      show some ((lkD ks (shDs n ws) s).getD (shD n z)) = _
      rw [lkD_sh]
      cases lkD ks ws s <;> rfl
    | _ => cases e
  | _ => cases e
theorem cutD_sh (n : Nat) (xs : List D) (lo hi : Option Int) : cutD (shDs n xs) lo hi = shDs n (cutD xs lo hi) := by
  unfold cutD
  rw [shDs_len, shDs_map, shDs_map, List.map_take, List.map_drop]
theorem slcD_sh (h : MH) (x : D) (lo hi : Option Int) {d : D} {h1 : MH} (e : slcD h x lo hi = some (d, h1)) : slcD (up p h) (shD p.length x) lo hi = some (shD p.length d, up p h1) := by
  cases x with
  | tup xs =>
    simp only [slcD] at e
    split at e
    · rename_i c
      cases e
      show (if ¬ (HT.sIx (shDs _ xs).length 0 lo = 0 ∧ HT.sIx (shDs _ xs).length (shDs _ xs).length hi = (shDs _ xs).length) then some (D.tup (cutD (shDs _ xs) lo hi), up p h) else none) = _
      rw [shDs_len, if_pos c, cutD_sh]; rfl
    · cases e
  | ref n =>
    have e : (h[n]?).map (fun xs => (D.ref h.length, h ++ [cutD xs lo hi])) = some (d, h1) := e
    show ((up p h)[p.length + n]?).map _ = _
    rw [up_get]
    cases q : h[n]? with
    | none => rw [q] at e; cases e
    | some xs =>
      rw [q] at e
      cases e
      show some (D.ref (up p h).length, up p h ++ [cutD (shDs _ xs) lo hi]) = _
      rw [up_new, cutD_sh, ← up_one]
  | str z =>
    simp only [slcD] at e
    split at e
    · rename_i c
      cases e
      exact if_pos c
    · cases e
  | _ => cases e
theorem appD_sh (h : MH) (x y : D) {h1 : MH} (e : appD h x y = some h1) : appD (up p h) (shD p.length x) (shD p.length y) = some (up p h1) := by
  cases x with
  | ref n =>
    have e : (h[n]?).bind (fun xs => if xs.length ≤ LIM then some (h.set n (xs ++ [y])) else none) = some h1 := e
    show ((up p h)[p.length + n]?).bind _ = _
    rw [up_get]
    cases q : h[n]? with
    | none => rw [q] at e; cases e
    | some xs =>
      rw [q] at e
      have e : (if xs.length ≤ LIM then some (h.set n (xs ++ [y])) else none) = some h1 := e
      show (if (shDs _ xs).length ≤ LIM then some ((up p h).set (p.length + n) (shDs _ xs ++ [shD _ y])) else none) = _
      rw [shDs_len]
      split at e
      · rename_i c
        cases e
        rw [if_pos c, up_set, shDs_app]; rfl
      · cases e
  | _ => cases e
theorem setD_sh (h : MH) (x i y : D) {h1 : MH} (e : setD h x i y = some h1) : setD (up p h) (shD p.length x) (shD p.length i) (shD p.length y) = some (up p h1) := by
  cases x with
  | ref n =>
    cases i with
    | int k =>
      have e : (h[n]?).bind (fun xs => (ixN xs.length k).map fun j => h.set n (xs.set j y)) = some h1 := e
      show ((up p h)[p.length + n]?).bind _ = _
      rw [up_get]
      cases q : h[n]? with
      | none => rw [q] at e; cases e
      | some xs =>
        rw [q] at e
        have e : (ixN xs.length k).map (fun j => h.set n (xs.set j y)) = some h1 := e
        show (ixN (shDs _ xs).length k).map (fun j => (up p h).set (p.length + n) ((shDs _ xs).set j (shD _ y))) = _
        rw [shDs_len]
        cases q2 : ixN xs.length k with
        | none => rw [q2] at e; cases e
        | some j =>
          rw [q2] at e
          cases e
          show some ((up p h).set (p.length + n) ((shDs _ xs).set j (shD _ y))) = _
          rw [up_set, shDs_map, shDs_map, List.map_set]
    | _ => cases e
  | _ => cases e
theorem flat_sh (n k : Nat) (xs : List D) : (List.replicate k (shDs n xs)).flatten = shDs n (List.replicate k xs).flatten := by
  rw [shDs_map, shDs_map, List.map_flatten, List.map_replicate]
theorem binD_sh (o : BO) (x y : D) (h : MH) {d : D} {h1 : MH} (e : binD o x y h = some (d, h1)) : binD o (shD p.length x) (shD p.length y) (up p h) = some (shD p.length d, up p h1) := by
  unfold binD at e
  split at e
  · cases e; rfl
  · rename_i xs ys
    split at e
    · rename_i c
      cases e
      show (if shDs _ xs ≠ [] ∧ (shDs _ xs).length + (shDs _ ys).length ≤ LIM then some (D.tup (shDs _ xs ++ shDs _ ys), up p h) else none) = _
      rw [shDs_len, shDs_len, if_pos ⟨fun z => c.1 (shDs_nil.mp z), c.2⟩, ← shDs_app]; rfl
    · cases e
  · rename_i a b
    show (match (up p h)[p.length + a]?, (up p h)[p.length + b]? with
      | some xs, some ys => if xs.length + ys.length ≤ LIM then some (D.ref (up p h).length, up p h ++ [xs ++ ys]) else none
      | _, _ => none) = _
    rw [up_get, up_get]
    split at e
    · rename_i xs ys ea eb
      rw [ea, eb]
      split at e
      · rename_i c
        cases e
        show (if (shDs _ xs).length + (shDs _ ys).length ≤ LIM then some (D.ref (up p h).length, up p h ++ [shDs _ xs ++ shDs _ ys]) else none) = _
        rw [shDs_len, shDs_len, if_pos c, up_new, ← shDs_app, ← up_one]
      · cases e
    · cases e
  · cases e; rfl
  · rename_i i j
    split at e
    · rename_i c; cases e; exact if_pos c
    · cases e
  · rename_i xs k
    split at e
    · rename_i c
      cases e
      show (if shDs _ xs ≠ [] ∧ 2 ≤ k ∧ k ≤ 1000 ∧ (shDs _ xs).length ≤ 1000 then some (D.tup (List.replicate k.toNat (shDs _ xs)).flatten, up p h) else none) = _
      rw [shDs_len, if_pos ⟨fun z => c.1 (shDs_nil.mp z), c.2⟩, flat_sh]; rfl
    · cases e
  · rename_i a k
    show (match (up p h)[p.length + a]? with
      | some xs => if 0 ≤ k ∧ k ≤ 1000 ∧ xs.length ≤ 1000 then some (D.ref (up p h).length, up p h ++ [(List.replicate k.toNat xs).flatten]) else none
      | none => none) = _
    rw [up_get]
    split at e
    · rename_i xs ea
      rw [ea]
      split at e
      · rename_i c
        cases e
        show (if 0 ≤ k ∧ k ≤ 1000 ∧ (shDs _ xs).length ≤ 1000 then some (D.ref (up p h).length, up p h ++ [(List.replicate k.toNat (shDs _ xs)).flatten]) else none) = _
        rw [shDs_len, if_pos c, up_new, flat_sh, ← up_one]
      · cases e
    · cases e
  · rename_i i j
    split at e
    · rename_i c; cases e; exact if_pos c
    · cases e
  · rename_i i j
    split at e
    · rename_i c; cases e; exact if_pos c
    · cases e
  · rename_i i j
    split at e
    · rename_i c; cases e; exact if_pos c
    · cases e
  · cases e
theorem biD_sh (b : BI) (xs : List D) (h : MH) {d : D} {h1 : MH} (e : biD b xs h = some (d, h1)) : biD b (shDs p.length xs) (up p h) = some (shD p.length d, up p h1) := by
  unfold biD at e
  split at e
  · rename_i x
    show (itemsD (up p h) (shD _ x)).map _ = _
    rw [itemsD_sh]
    cases q : itemsD h x with
    | none => rw [q] at e; cases e
    | some ys => rw [q] at e; cases e; show some (D.int (shDs _ ys).length, _) = _; rw [shDs_len]; rfl
  · cases e; rfl
  · cases e; rfl
  · cases e; rfl
  · rename_i n
    show ((up p h)[p.length + n]?).bind _ = _
    rw [up_get]
    cases q : h[n]? with
    | none => rw [q] at e; cases e
    | some ys =>
      rw [q] at e
      have e : (intsD ys).bind (fun z => match z with
        | [] => none
        | k :: r => some (D.int (maxI k r), h)) = some (d, h1) := e
      show (intsD (shDs _ ys)).bind _ = _
      rw [intsD_sh]
      cases q2 : intsD ys with
      | none => rw [q2] at e; cases e
      | some js => rw [q2] at e; cases js with
        | nil => cases e
        | cons k r => cases e; rfl
  · cases e; rfl
  · cases e; rfl
  · rename_i x
    show (itemsD (up p h) (shD _ x)).map _ = _
    rw [itemsD_sh]
    cases q : itemsD h x with
    | none => rw [q] at e; cases e
    | some ys =>
      rw [q] at e
      cases e
      show some (D.ref (up p h).length, up p h ++ [shDs _ ys]) = _
      rw [up_new, ← up_one]
  · cases e; rfl
  · rename_i n
    show ((up p h)[p.length + n]?).map _ = _
    rw [up_get]
    cases q : h[n]? with
    | none => rw [q] at e; cases e
    | some ys => rw [q] at e; cases e; rfl
  · rename_i n
    show ((up p h)[p.length + n]?).bind _ = _
    rw [up_get]
    cases q : h[n]? with
    | none => rw [q] at e; cases e
    | some ys =>
      rw [q] at e
      have e : (bools ys).map (fun bs => (D.bl (bs.all id), h)) = some (d, h1) := e
      show (bools (shDs _ ys)).map _ = _
      rw [bools_sh]
      cases q2 : bools ys with
      | none => rw [q2] at e; cases e
      | some bs => rw [q2] at e; cases e; rfl
  · rename_i n
    show ((up p h)[p.length + n]?).bind _ = _
    rw [up_get]
    cases q : h[n]? with
    | none => rw [q] at e; cases e
    | some ys =>
      rw [q] at e
      have e : (bools ys).map (fun bs => (D.bl (bs.any id), h)) = some (d, h1) := e
      show (bools (shDs _ ys)).map _ = _
      rw [bools_sh]
      cases q2 : bools ys with
      | none => rw [q2] at e; cases e
      | some bs => rw [q2] at e; cases e; rfl
  · rename_i x
    show (pdT (up p h) (shD _ x)).bind _ = _
    rw [pdT_sh]
    cases q : pdT h x with
    | none => rw [q] at e; cases e
    | some dd =>
      rw [q] at e
      have e : (if shows dd = true then some (D.str dd.shown, h) else none) = some (d, h1) := e
      split at e
      · rename_i c
        cases e
        exact if_pos c
      · cases e
  · cases e
/-! ### what is walked -/
def shSrc (n : Nat) : Src → Src
  | .sq d => .sq (shD n d)
  | .rng lo k => .rng lo k
  | .enum d => .enum (shD n d)
  | .zip a b => .zip (shD n a) (shD n b)
theorem srcAt_sh (h : MH) (src : Src) (i : Nat) {o : Option D} (e : srcAt h src i = some o) : srcAt (up p h) (shSrc p.length src) i = some (o.map (shD p.length)) := by
  cases src with
  | sq d =>
    have e : (itemsD h d).map (fun xs => xs[i]?) = some o := e
    show (itemsD _ _).map _ = _
    rw [itemsD_sh]
    cases q : itemsD h d with
    | none => rw [q] at e; cases e
    | some xs => rw [q] at e; cases e; show some (shDs _ xs)[i]? = _; rw [shDs_get]
  | rng lo k =>
    have e : some (if i < k then some (D.int (lo + i)) else none) = some o := e
    cases e
    show some (if i < k then some (D.int (lo + i)) else none) = _
    split <;> rfl
  | enum d =>
    have e : (itemsD h d).map (fun xs => (xs[i]?).map fun x => D.tup [.int i, x]) = some o := e
    show (itemsD _ _).map _ = _
    rw [itemsD_sh]
    cases q : itemsD h d with
    | none => rw [q] at e; cases e
    | some xs =>
      rw [q] at e
      cases e
      show some (((shDs _ xs)[i]?).map fun x => D.tup [.int i, x]) = some (((xs[i]?).map fun x => D.tup [.int i, x]).map (shD p.length))
      rw [shDs_get]
      cases xs[i]? <;> rfl
  | zip a b =>
    have e : (itemsD h a).bind (fun xs => (itemsD h b).map fun ys => (xs[i]?).bind fun x => (ys[i]?).map fun y => D.tup [x, y]) = some o := e
    show (itemsD _ _).bind (fun xs => (itemsD _ _).map _) = _
    rw [itemsD_sh, itemsD_sh]
    cases q : itemsD h a with
    | none => rw [q] at e; cases e
    | some xs =>
      rw [q] at e
      have e : (itemsD h b).map (fun ys => (xs[i]?).bind fun x => (ys[i]?).map fun y => D.tup [x, y]) = some o := e
      cases q2 : itemsD h b with
      | none => rw [q2] at e; cases e
      | some ys =>
        rw [q2] at e
        cases e
        show some (((shDs _ xs)[i]?).bind fun x => ((shDs _ ys)[i]?).map fun y => D.tup [x, y]) = some (((xs[i]?).bind fun x => (ys[i]?).map fun y => D.tup [x, y]).map (shD p.length))
        rw [shDs_get, shDs_get]
        cases xs[i]? with
        | none => rfl
        | some x => cases ys[i]? <;> rfl
theorem srcLen_sh (h : MH) (src : Src) : srcLen (up p h) (shSrc p.length src) = srcLen h src := by
  have key : ∀ d, ((itemsD (up p h) (shD p.length d)).getD []).length = ((itemsD h d).getD []).length := by
    intro d
    rw [itemsD_sh]
    cases itemsD h d with
    | none => rfl
    | some xs => exact shDs_len _ xs
  cases src with
  | sq d => exact key d
  | rng lo k => rfl
  | enum d => exact key d
  | zip a b => show min _ _ = min _ _; rw [key a, key b]
/-- the same names, or more -/
def SRel (n : Nat) (σ σ' : En) : Prop := σ.length = σ'.length ∧ ∀ (i : Nat) (x : D), σ[i]? = some (some x) → σ'[i]? = some (some (shD n x))
theorem SRel.set {n : Nat} {σ σ' : En} (R : SRel n σ σ') (i : Nat) (x : D) : SRel n (σ.set i (some x)) (σ'.set i (some (shD n x))) := by
  refine ⟨by rw [List.length_set, List.length_set]; exact R.1, fun j y e => ?_⟩
  by_cases c : i = j
  · subst c
    by_cases l : i < σ.length
    · rw [List.getElem?_set_self l] at e
      cases e
      rw [List.getElem?_set_self (by rw [← R.1]; exact l)]
    · rw [List.getElem?_eq_none (by rw [List.length_set]; omega)] at e
      cases e
  · rw [List.getElem?_set_ne c] at e ⊢
    exact R.2 j y e
theorem SRel.unset {n : Nat} {σ σ' : En} (R : SRel n σ σ') (i : Nat) : SRel n (σ.set i none) (σ'.set i none) := by
  refine ⟨by rw [List.length_set, List.length_set]; exact R.1, fun j y e => ?_⟩
  by_cases c : i = j
  · subst c
    by_cases l : i < σ.length
    · rw [List.getElem?_set_self l] at e; cases e
    · rw [List.getElem?_eq_none (by rw [List.length_set]; omega)] at e
      cases e
  · rw [List.getElem?_set_ne c] at e ⊢
    exact R.2 j y e
theorem SRel.wipe {n : Nat} {σ σ' : En} (R : SRel n σ σ') : ∀ vs : List Nat, SRel n (wipeD σ vs) (wipeD σ' vs)
  | [] => R
  | v :: vs => (SRel.wipe R vs).unset v
def shFl (n : Nat) : Fl → Fl
  | .nx => .nx
  | .bk => .bk
  | .ct => .ct
  | .rt d => .rt (shD n d)
/-! ### loops -/
def FRel (p : MH) (f f' : D → En → MH → SR) : Prop := ∀ x σ σ' h fl σ1 h1, SRel p.length σ σ' → f x σ h = some (fl, σ1, h1) → ∃ σ1', SRel p.length σ1 σ1' ∧ f' (shD p.length x) σ' (up p h) = some (shFl p.length fl, σ1', up p h1)
theorem forL_sh {src : Src} {f f' : D → En → MH → SR} (F : FRel p f f') : ∀ (k i : Nat) (σ σ' : En) (h : MH) (fl : Fl) (σ1 : En) (h1 : MH), SRel p.length σ σ' → forL src f k i σ h = some (fl, σ1, h1) → ∃ σ1', SRel p.length σ1 σ1' ∧ forL (shSrc p.length src) f' k i σ' (up p h) = some (shFl p.length fl, σ1', up p h1) := by
  intro k
  induction k with
  | zero => intro i σ σ' h fl σ1 h1 R e; cases e
  | succ k ih =>
    intro i σ σ' h fl σ1 h1 R e
    have e : (srcAt h src i).bind (fun o => match o with
      | none => some (.nx, σ, h)
      | some x => (f x σ h).bind fun (y : Fl × En × MH) => match y.1 with
        | .nx => forL src f k (i + 1) y.2.1 y.2.2
        | .ct => forL src f k (i + 1) y.2.1 y.2.2
        | .bk => some (.nx, y.2.1, y.2.2)
        | .rt d => some (.rt d, y.2.1, y.2.2)) = some (fl, σ1, h1) := e
    cases q : srcAt h src i with
    | none => rw [q] at e; cases e
    | some o =>
      rw [q] at e
      have sa := srcAt_sh (p := p) h src i q
      cases o with
      | none =>
        cases e
        refine ⟨σ', R, ?_⟩
        show (srcAt _ _ i).bind _ = _
        rw [sa]; rfl
      | some x =>
        have e : (f x σ h).bind (fun (y : Fl × En × MH) => match y.1 with
          | .nx => forL src f k (i + 1) y.2.1 y.2.2
          | .ct => forL src f k (i + 1) y.2.1 y.2.2
          | .bk => some (.nx, y.2.1, y.2.2)
          | .rt d => some (.rt d, y.2.1, y.2.2)) = some (fl, σ1, h1) := e
        cases q2 : f x σ h with
        | none => rw [q2] at e; cases e
        | some y =>
          obtain ⟨f2, σ2, h2⟩ := y
          rw [q2] at e
          obtain ⟨σ2', R2, e2⟩ := F x σ σ' h f2 σ2 h2 R q2
          have go : forL (shSrc p.length src) f' (k + 1) i σ' (up p h) = (match shFl p.length f2 with
            | .nx => forL (shSrc p.length src) f' k (i + 1) σ2' (up p h2)
            | .ct => forL (shSrc p.length src) f' k (i + 1) σ2' (up p h2)
            | .bk => some (.nx, σ2', up p h2)
            | .rt d => some (.rt d, σ2', up p h2)) := by
            show (srcAt _ _ i).bind _ = _
            rw [sa]
            show (f' (shD _ x) σ' (up p h)).bind _ = _
            rw [e2]; rfl
          rw [go]
          cases f2 with
          | nx => exact ih (i + 1) σ2 σ2' h2 fl σ1 h1 R2 e
          | ct => exact ih (i + 1) σ2 σ2' h2 fl σ1 h1 R2 e
          | bk => cases e; exact ⟨σ2', R2, rfl⟩
          | rt d => cases e; exact ⟨σ2', R2, rfl⟩
def LRel (p : MH) (f f' : D → MH → Option (Option D × MH)) : Prop := ∀ x h o h1, f x h = some (o, h1) → f' (shD p.length x) (up p h) = some (o.map (shD p.length), up p h1)
theorem lcL_sh {src : Src} {f f' : D → MH → Option (Option D × MH)} (F : LRel p f f') : ∀ (k i : Nat) (acc : List D) (h : MH) (ys : List D) (h1 : MH), lcL src f k i acc h = some (ys, h1) → lcL (shSrc p.length src) f' k i (shDs p.length acc) (up p h) = some (shDs p.length ys, up p h1) := by
  intro k
  induction k with
  | zero => intro i acc h ys h1 e; cases e
  | succ k ih =>
    intro i acc h ys h1 e
    have e : (srcAt h src i).bind (fun o => match o with
      | none => some (acc, h)
      | some x => (f x h).bind fun (y : Option D × MH) => match y.1 with
        | none => lcL src f k (i + 1) acc y.2
        | some z => lcL src f k (i + 1) (acc ++ [z]) y.2) = some (ys, h1) := e
    cases q : srcAt h src i with
    | none => rw [q] at e; cases e
    | some o =>
      rw [q] at e
      have sa := srcAt_sh (p := p) h src i q
      cases o with
      | none =>
        cases e
        show (srcAt _ _ i).bind _ = _
        rw [sa]; rfl
      | some x =>
        have e : (f x h).bind (fun (y : Option D × MH) => match y.1 with
          | none => lcL src f k (i + 1) acc y.2
          | some z => lcL src f k (i + 1) (acc ++ [z]) y.2) = some (ys, h1) := e
        cases q2 : f x h with
        | none => rw [q2] at e; cases e
        | some y =>
          obtain ⟨o, h2⟩ := y
          rw [q2] at e
          have e2 := F x h o h2 q2
          show (srcAt _ _ i).bind _ = _
          rw [sa]
          show (f' (shD _ x) (up p h)).bind _ = _
          rw [e2]
          cases o with
          | none => exact ih (i + 1) acc h2 ys h1 e
          | some z =>
            have := ih (i + 1) (acc ++ [z]) h2 ys h1 e
            rw [shDs_app] at this
            exact this
def CRel (p : MH) (c c' : En → MH → Option (Bool × MH)) : Prop := ∀ σ σ' h b h1, SRel p.length σ σ' → c σ h = some (b, h1) → c' σ' (up p h) = some (b, up p h1)
def BRel (p : MH) (f f' : En → MH → SR) : Prop := ∀ σ σ' h fl σ1 h1, SRel p.length σ σ' → f σ h = some (fl, σ1, h1) → ∃ σ1', SRel p.length σ1 σ1' ∧ f' σ' (up p h) = some (shFl p.length fl, σ1', up p h1)
theorem whlL_sh {c c' : En → MH → Option (Bool × MH)} {f f' : En → MH → SR} (C : CRel p c c') (F : BRel p f f') : ∀ (k k' : Nat) (σ σ' : En) (h : MH) (fl : Fl) (σ1 : En) (h1 : MH), k ≤ k' → SRel p.length σ σ' → whlL c f k σ h = some (fl, σ1, h1) → ∃ σ1', SRel p.length σ1 σ1' ∧ whlL c' f' k' σ' (up p h) = some (shFl p.length fl, σ1', up p h1) := by
  intro k
  induction k with
  | zero => intro k' σ σ' h fl σ1 h1 l R e; cases e
  | succ k ih =>
    intro k' σ σ' h fl σ1 h1 l R e
    obtain ⟨k', rfl⟩ : ∃ j, k' = j + 1 := ⟨k' - 1, by omega⟩
    have e : (c σ h).bind (fun (z : Bool × MH) => match z.1 with
      | false => some (.nx, σ, z.2)
      | true => (f σ z.2).bind fun (y : Fl × En × MH) => match y.1 with
        | .nx => whlL c f k y.2.1 y.2.2
        | .ct => whlL c f k y.2.1 y.2.2
        | .bk => some (.nx, y.2.1, y.2.2)
        | .rt d => some (.rt d, y.2.1, y.2.2)) = some (fl, σ1, h1) := e
    cases q : c σ h with
    | none => rw [q] at e; cases e
    | some z =>
      obtain ⟨b, h2⟩ := z
      rw [q] at e
      have cb := C σ σ' h b h2 R q
      cases b with
      | false =>
        cases e
        refine ⟨σ', R, ?_⟩
        show (c' σ' (up p h)).bind _ = _
        rw [cb]; rfl
      | true =>
        have e : (f σ h2).bind (fun (y : Fl × En × MH) => match y.1 with
          | .nx => whlL c f k y.2.1 y.2.2
          | .ct => whlL c f k y.2.1 y.2.2
          | .bk => some (.nx, y.2.1, y.2.2)
          | .rt d => some (.rt d, y.2.1, y.2.2)) = some (fl, σ1, h1) := e
        cases q2 : f σ h2 with
        | none => rw [q2] at e; cases e
        | some y =>
          obtain ⟨f2, σ2, h3⟩ := y
          rw [q2] at e
          obtain ⟨σ2', R2, e2⟩ := F σ σ' h2 f2 σ2 h3 R q2
          have go : whlL c' f' (k' + 1) σ' (up p h) = (match shFl p.length f2 with
            | .nx => whlL c' f' k' σ2' (up p h3)
            | .ct => whlL c' f' k' σ2' (up p h3)
            | .bk => some (.nx, σ2', up p h3)
            | .rt d => some (.rt d, σ2', up p h3)) := by
            show (c' σ' (up p h)).bind _ = _
            rw [cb]
            show (f' σ' (up p h2)).bind _ = _
            rw [e2]; rfl
          rw [go]
          cases f2 with
          | nx => exact ih k' σ2 σ2' h3 fl σ1 h1 (by omega) R2 e
          | ct => exact ih k' σ2 σ2' h3 fl σ1 h1 (by omega) R2 e
          | bk => cases e; exact ⟨σ2', R2, rfl⟩
          | rt d => cases e; exact ⟨σ2', R2, rfl⟩
/-! ### the text -/
structure GOk (Γ : Gm) (p : MH) : Prop where
  con : ∀ k, noRef (Γ.con k) = true
  fn : ∀ k xs h d h1, Γ.fn k xs h = some (d, h1) → Γ.fn k (shDs p.length xs) (up p h) = some (shD p.length d, up p h1)
  pat : ∀ k q xs, Γ.pat k q (shDs p.length xs) = shDs p.length (Γ.pat k q xs)
theorem getB_sh {r : Option (D × MH)} {r' : Option (D × MH)} (hr : ∀ d h1, r = some (d, h1) → r' = some (shD p.length d, up p h1)) {b : Bool} {h1 : MH} (e : getB r = some (b, h1)) : getB r' = some (b, up p h1) := by
  cases r with
  | none => cases e
  | some y =>
    obtain ⟨d, h2⟩ := y
    cases d <;> first | (cases e; done) | skip
    cases e
    rw [hr _ _ rfl]; rfl
theorem partR_sh {x : Ex} {r r' : Option (D × MH)} (hr : ∀ d h1, r = some (d, h1) → r' = some (shD p.length d, up p h1)) {h : MH} {l : Option Int} {h1 : MH} (e : partR x r h = some (l, h1)) : partR x r' (up p h) = some (l, up p h1) := by
  unfold partR at e ⊢
  split at e
  · rename_i c
    cases e
    rw [if_pos c]
  · rename_i c
    rw [if_neg c]
    obtain ⟨d, h2, e1, e2⟩ := bind_pair e
    rw [hr _ _ e1]
    cases d <;> first | (cases e2; done) | skip
    cases e2
    rfl
mutual
theorem ev_sh {Γ : Gm} {p : MH} (G : GOk Γ p) : ∀ (e : Ex) (σ σ' : En) (h : MH) (d : D) (h1 : MH), SRel p.length σ σ' → ev Γ e σ h = some (d, h1) → ev Γ e σ' (up p h) = some (shD p.length d, up p h1)
  | .var i, σ, σ', h, d, h1, R, e => by
    have e : (σ[i]?).bind (fun o => o.map fun d => (d, h)) = some (d, h1) := e
    cases q : σ[i]? with
    | none => rw [q] at e; cases e
    | some o =>
      rw [q] at e
      cases o with
      | none => cases e
      | some x =>
        cases e
        show (σ'[i]?).bind _ = _
        rw [R.2 i d q]; rfl
  | .int i, σ, σ', h, d, h1, R, e => by cases e; rfl
  | .str s, σ, σ', h, d, h1, R, e => by cases e; rfl
  | .bl b, σ, σ', h, d, h1, R, e => by cases e; rfl
  | .non, σ, σ', h, d, h1, R, e => by cases e; rfl
  | .glob k, σ, σ', h, d, h1, R, e => by
    cases e
    show some (Γ.con k, up p h) = _
    rw [shD_no _ _ (G.con k)]
  | .tup es, σ, σ', h, d, h1, R, e => by
    obtain ⟨xs, h2, e1, e2⟩ := bind_pair (show (evs Γ es σ h).bind _ = _ from e)
    show (evs Γ es σ' (up p h)).bind _ = _
    rw [evs_sh G es σ σ' h xs h2 R e1]
    simp only at e2
    split at e2
    · rename_i c
      cases e2
      show (if (shDs _ xs).length ≤ LIM then some (D.tup (shDs _ xs), _) else none) = _
      rw [shDs_len, if_pos c]; rfl
    · cases e2
  | .lst es, σ, σ', h, d, h1, R, e => by
    obtain ⟨xs, h2, e1, e2⟩ := bind_pair (show (evs Γ es σ h).bind _ = _ from e)
    show (evs Γ es σ' (up p h)).bind _ = _
    rw [evs_sh G es σ σ' h xs h2 R e1]
    simp only at e2
    split at e2
    · rename_i c
      cases e2
      show (if (shDs _ xs).length ≤ LIM then some (D.ref (up p h2).length, up p h2 ++ [shDs _ xs]) else none) = _
      rw [shDs_len, if_pos c, up_new, ← up_one]
    · cases e2
  | .bin o a b, σ, σ', h, d, h1, R, e => by
    obtain ⟨x, h2, e1, e2⟩ := bind_pair (show (ev Γ a σ h).bind _ = _ from e)
    obtain ⟨y, h3, e3, e4⟩ := bind_pair e2
    show (ev Γ a σ' (up p h)).bind _ = _
    rw [ev_sh G a σ σ' h x h2 R e1]
    show (ev Γ b σ' (up p h2)).bind _ = _
    rw [ev_sh G b σ σ' h2 y h3 R e3]
    exact binD_sh o x y h3 e4
  | .neg a, σ, σ', h, d, h1, R, e => by
    obtain ⟨x, h2, e1, e2⟩ := bind_pair (show (ev Γ a σ h).bind _ = _ from e)
    show (ev Γ a σ' (up p h)).bind _ = _
    rw [ev_sh G a σ σ' h x h2 R e1]
    cases x <;> first | (cases e2; done) | skip
    cases e2; rfl
  | .cmp o a b, σ, σ', h, d, h1, R, e => by
    obtain ⟨x, h2, e1, e2⟩ := bind_pair (show (ev Γ a σ h).bind _ = _ from e)
    obtain ⟨y, h3, e3, e4⟩ := bind_pair e2
    show (ev Γ a σ' (up p h)).bind _ = _
    rw [ev_sh G a σ σ' h x h2 R e1]
    show (ev Γ b σ' (up p h2)).bind _ = _
    rw [ev_sh G b σ σ' h2 y h3 R e3]
    obtain ⟨r, e5, e6⟩ := Option.map_eq_some_iff.mp e4
    cases e6
    show (cmpD o (up p _) (shD _ x) (shD _ y)).map _ = _
    rw [cmpD_sh o _ x y e5]; rfl
  | .isN a, σ, σ', h, d, h1, R, e => by
    obtain ⟨x, h2, e1, e2⟩ := map_pair (show (ev Γ a σ h).map _ = _ from e)
    cases e2
    show (ev Γ a σ' (up p h)).map _ = _
    rw [ev_sh G a σ σ' h x _ R e1]
    show some (D.bl (isNone (shD _ x)), _) = _
    rw [isNone_sh]; rfl
  | .notN a, σ, σ', h, d, h1, R, e => by
    obtain ⟨x, h2, e1, e2⟩ := map_pair (show (ev Γ a σ h).map _ = _ from e)
    cases e2
    show (ev Γ a σ' (up p h)).map _ = _
    rw [ev_sh G a σ σ' h x _ R e1]
    show some (D.bl (!isNone (shD _ x)), _) = _
    rw [isNone_sh]; rfl
  | .andE es, σ, σ', h, d, h1, R, e => evAnd_sh G es σ σ' h d h1 R e
  | .orE es, σ, σ', h, d, h1, R, e => evOr_sh G es σ σ' h d h1 R e
  | .notE a, σ, σ', h, d, h1, R, e => by
    obtain ⟨b, h2, e1, e2⟩ := map_pair (show (getB (ev Γ a σ h)).map _ = _ from e)
    cases e2
    show (getB (ev Γ a σ' (up p h))).map _ = _
    rw [getB_sh (fun d h1 q => ev_sh G a σ σ' h d h1 R q) e1]; rfl
  | .ife c a b, σ, σ', h, d, h1, R, e => by
    obtain ⟨t, h2, e1, e2⟩ := bind_pair (show (getB (ev Γ c σ h)).bind _ = _ from e)
    show (getB (ev Γ c σ' (up p h))).bind _ = _
    rw [getB_sh (fun d h1 q => ev_sh G c σ σ' h d h1 R q) e1]
    cases t with
    | true => exact ev_sh G a σ σ' h2 d h1 R e2
    | false => exact ev_sh G b σ σ' h2 d h1 R e2
  | .idx a b, σ, σ', h, d, h1, R, e => by
    obtain ⟨x, h2, e1, e2⟩ := bind_pair (show (ev Γ a σ h).bind _ = _ from e)
    obtain ⟨y, h3, e3, e4⟩ := bind_pair e2
    show (ev Γ a σ' (up p h)).bind _ = _
    rw [ev_sh G a σ σ' h x h2 R e1]
    show (ev Γ b σ' (up p h2)).bind _ = _
    rw [ev_sh G b σ σ' h2 y h3 R e3]
    obtain ⟨r, e5, e6⟩ := Option.map_eq_some_iff.mp e4
    cases e6
    show (idxD (up p _) (shD _ x) (shD _ y)).map _ = _
    rw [idxD_sh _ x y e5]; rfl
  | .slc a lo hi, σ, σ', h, d, h1, R, e => by
    obtain ⟨x, h2, e1, e2⟩ := bind_pair (show (ev Γ a σ h).bind _ = _ from e)
    obtain ⟨l, h3, e3, e4⟩ := bind_pair e2
    obtain ⟨u, h4, e5, e6⟩ := bind_pair e4
    show (ev Γ a σ' (up p h)).bind _ = _
    rw [ev_sh G a σ σ' h x h2 R e1]
    show (partR lo (ev Γ lo σ' (up p h2)) (up p h2)).bind _ = _
    rw [partR_sh (fun d h1 q => ev_sh G lo σ σ' h2 d h1 R q) e3]
    show (partR hi (ev Γ hi σ' (up p h3)) (up p h3)).bind _ = _
    rw [partR_sh (fun d h1 q => ev_sh G hi σ σ' h3 d h1 R q) e5]
    exact slcD_sh h4 x l u e6
  | .absent, σ, σ', h, d, h1, R, e => by cases e
  | .call k es, σ, σ', h, d, h1, R, e => by
    obtain ⟨xs, h2, e1, e2⟩ := bind_pair (show (evs Γ es σ h).bind _ = _ from e)
    show (evs Γ es σ' (up p h)).bind _ = _
    rw [evs_sh G es σ σ' h xs h2 R e1]
    exact G.fn k xs h2 d h1 e2
  | .callP k q es ks, σ, σ', h, d, h1, R, e => by
    obtain ⟨xs, h2, e1, e2⟩ := bind_pair (show (evs Γ es σ h).bind _ = _ from e)
    obtain ⟨zs, h3, e3, e4⟩ := bind_pair e2
    show (evs Γ es σ' (up p h)).bind _ = _
    rw [evs_sh G es σ σ' h xs h2 R e1]
    show (evs Γ ks σ' (up p h2)).bind _ = _
    rw [evs_sh G ks σ σ' h2 zs h3 R e3]
    show Γ.fn k (Γ.pat k q (shDs _ xs ++ shDs _ zs)) (up p h3) = _
    rw [← shDs_app, G.pat]
    exact G.fn k _ h3 d h1 e4
  | .bi b es, σ, σ', h, d, h1, R, e => by
    obtain ⟨xs, h2, e1, e2⟩ := bind_pair (show (evs Γ es σ h).bind _ = _ from e)
    show (evs Γ es σ' (up p h)).bind _ = _
    rw [evs_sh G es σ σ' h xs h2 R e1]
    exact biD_sh b xs h2 e2
  | .isi a T, σ, σ', h, d, h1, R, e => by
    obtain ⟨x, h2, e1, e2⟩ := bind_pair (show (ev Γ a σ h).bind _ = _ from e)
    obtain ⟨r, e5, e6⟩ := Option.map_eq_some_iff.mp e2
    cases e6
    show (ev Γ a σ' (up p h)).bind _ = _
    rw [ev_sh G a σ σ' h x _ R e1]
    show (L2.kitB (tyn (shD _ x)) T).map _ = _
    rw [tyn_sh, e5]; rfl
  | .app o x, σ, σ', h, d, h1, R, e => by
    obtain ⟨u, h2, e1, e2⟩ := bind_pair (show (ev Γ o σ h).bind _ = _ from e)
    obtain ⟨v, h3, e3, e4⟩ := bind_pair e2
    obtain ⟨r, e5, e6⟩ := Option.map_eq_some_iff.mp e4
    cases e6
    show (ev Γ o σ' (up p h)).bind _ = _
    rw [ev_sh G o σ σ' h u h2 R e1]
    show (ev Γ x σ' (up p h2)).bind _ = _
    rw [ev_sh G x σ σ' h2 v h3 R e3]
    show (appD (up p _) (shD _ u) (shD _ v)).map _ = _
    rw [appD_sh _ u v e5]; rfl
  | .dsp ks es, σ, σ', h, d, h1, R, e => by
    obtain ⟨xs, h2, e1, e2⟩ := bind_pair (show (evs Γ es σ h).bind _ = _ from e)
    show (evs Γ es σ' (up p h)).bind _ = _
    rw [evs_sh G es σ σ' h xs h2 R e1]
    simp only at e2
    split at e2
    · rename_i c
      cases e2
      show (if (shDs _ xs).length = ks.length then some (D.dct ks (shDs _ xs), _) else none) = _
      rw [shDs_len, if_pos c]; rfl
    · cases e2
  | .dget o a b, σ, σ', h, d, h1, R, e => by
    obtain ⟨x, h2, e1, e2⟩ := bind_pair (show (ev Γ o σ h).bind _ = _ from e)
    obtain ⟨y, h3, e3, e4⟩ := bind_pair e2
    obtain ⟨z, h4, e5, e6⟩ := bind_pair e4
    obtain ⟨r, e7, e8⟩ := Option.map_eq_some_iff.mp e6
    cases e8
    show (ev Γ o σ' (up p h)).bind _ = _
    rw [ev_sh G o σ σ' h x h2 R e1]
    show (ev Γ a σ' (up p h2)).bind _ = _
    rw [ev_sh G a σ σ' h2 y h3 R e3]
    show (ev Γ b σ' (up p h3)).bind _ = _
    rw [ev_sh G b σ σ' h3 z _ R e5]
    show (getD3 (shD _ x) (shD _ y) (shD _ z)).map _ = _
    rw [getD3_sh _ x y z e7]; rfl
  | .lc elt tg it ifs, σ, σ', h, d, h1, R, e => by
    obtain ⟨src, h2, e1, e2⟩ := bind_pair (show (evIt Γ it σ h).bind _ = _ from e)
    obtain ⟨ys, h3, e3, e4⟩ := bind_pair e2
    show (evIt Γ it σ' (up p h)).bind _ = _
    rw [evIt_sh G it σ σ' h src h2 R e1]
    show (lcL (shSrc p.length src) (fun x h2 => (asgT Γ tg x (wipeD σ' (tgS tg)) h2).bind fun (y : En × MH) => (evTests Γ ifs y.1 y.2).bind fun (z : Bool × MH) => match z.1 with
        | true => (ev Γ elt y.1 z.2).map fun (w : D × MH) => (some w.1, w.2)
        | false => some (none, z.2)) (srcLen (up p h2) (shSrc p.length src) + 1) 0 [] (up p h2)).bind _ = _
    rw [srcLen_sh]
    have := lcL_sh (p := p) (f' := (fun x h2 => (asgT Γ tg x (wipeD σ' (tgS tg)) h2).bind fun (y : En × MH) => (evTests Γ ifs y.1 y.2).bind fun (z : Bool × MH) => match z.1 with
        | true => (ev Γ elt y.1 z.2).map fun (w : D × MH) => (some w.1, w.2)
        | false => some (none, z.2))) (by
      intro x h4 o h5 q
      obtain ⟨σ4, h6, q1, q2⟩ := bind_pair q
      obtain ⟨b, h7, q3, q4⟩ := bind_pair q2
      obtain ⟨σ4', R4, q5⟩ := asgT_sh G tg x (wipeD σ (tgS tg)) (wipeD σ' (tgS tg)) h4 σ4 h6 (R.wipe _) q1
      show (asgT Γ tg (shD _ x) _ (up p h4)).bind _ = _
      rw [q5]
      show (evTests Γ ifs σ4' (up p h6)).bind _ = _
      rw [evTests_sh G ifs σ4 σ4' h6 b h7 R4 q3]
      cases b with
      | true =>
        obtain ⟨w, h8, q6, q7⟩ := map_pair q4
        cases q7
        show (ev Γ elt σ4' (up p h7)).map _ = _
        rw [ev_sh G elt σ4 σ4' h7 w _ R4 q6]; rfl
      | false => cases q4; rfl) _ _ _ _ _ _ e3
    have this : lcL _ _ _ _ [] _ = _ := this
    rw [this]
    simp only at e4
    split at e4
    · rename_i c
      cases e4
      show (if (shDs _ ys).length ≤ LIM then some (D.ref (up p h3).length, up p h3 ++ [shDs _ ys]) else none) = _
      rw [shDs_len, if_pos c, up_new, ← up_one]
    · cases e4
  | .never, σ, σ', h, d, h1, R, e => by cases e
theorem evs_sh {Γ : Gm} {p : MH} (G : GOk Γ p) : ∀ (es : List Ex) (σ σ' : En) (h : MH) (xs : List D) (h1 : MH), SRel p.length σ σ' → evs Γ es σ h = some (xs, h1) → evs Γ es σ' (up p h) = some (shDs p.length xs, up p h1)
  | [], σ, σ', h, xs, h1, R, e => by cases e; rfl
  | x :: r, σ, σ', h, xs, h1, R, e => by
    obtain ⟨u, h2, e1, e2⟩ := bind_pair (show (ev Γ x σ h).bind _ = _ from e)
    obtain ⟨us, h3, e3, e4⟩ := map_pair e2
    cases e4
    show (ev Γ x σ' (up p h)).bind _ = _
    rw [ev_sh G x σ σ' h u h2 R e1]
    show (evs Γ r σ' (up p h2)).map _ = _
    rw [evs_sh G r σ σ' h2 us _ R e3]; rfl
theorem evAnd_sh {Γ : Gm} {p : MH} (G : GOk Γ p) : ∀ (es : List Ex) (σ σ' : En) (h : MH) (d : D) (h1 : MH), SRel p.length σ σ' → evAnd Γ es σ h = some (d, h1) → evAnd Γ es σ' (up p h) = some (shD p.length d, up p h1)
  | [], σ, σ', h, d, h1, R, e => by cases e
  | [x], σ, σ', h, d, h1, R, e => ev_sh G x σ σ' h d h1 R e
  | x :: y :: r, σ, σ', h, d, h1, R, e => by
    obtain ⟨t, h2, e1, e2⟩ := bind_pair (show (getB (ev Γ x σ h)).bind _ = _ from e)
    show (getB (ev Γ x σ' (up p h))).bind _ = _
    rw [getB_sh (fun d h1 q => ev_sh G x σ σ' h d h1 R q) e1]
    cases t with
    | true => exact evAnd_sh G (y :: r) σ σ' h2 d h1 R e2
    | false => cases e2; rfl
theorem evOr_sh {Γ : Gm} {p : MH} (G : GOk Γ p) : ∀ (es : List Ex) (σ σ' : En) (h : MH) (d : D) (h1 : MH), SRel p.length σ σ' → evOr Γ es σ h = some (d, h1) → evOr Γ es σ' (up p h) = some (shD p.length d, up p h1)
  | [], σ, σ', h, d, h1, R, e => by cases e
  | [x], σ, σ', h, d, h1, R, e => ev_sh G x σ σ' h d h1 R e
  | x :: y :: r, σ, σ', h, d, h1, R, e => by
    obtain ⟨t, h2, e1, e2⟩ := bind_pair (show (getB (ev Γ x σ h)).bind _ = _ from e)
    show (getB (ev Γ x σ' (up p h))).bind _ = _
    rw [getB_sh (fun d h1 q => ev_sh G x σ σ' h d h1 R q) e1]
    cases t with
    | true => cases e2; rfl
    | false => exact evOr_sh G (y :: r) σ σ' h2 d h1 R e2
theorem evTests_sh {Γ : Gm} {p : MH} (G : GOk Γ p) : ∀ (es : List Ex) (σ σ' : En) (h : MH) (b : Bool) (h1 : MH), SRel p.length σ σ' → evTests Γ es σ h = some (b, h1) → evTests Γ es σ' (up p h) = some (b, up p h1)
  | [], σ, σ', h, d, h1, R, e => by cases e; rfl
  | x :: r, σ, σ', h, d, h1, R, e => getB_sh (fun d h1 q => ev_sh G x σ σ' h d h1 R q) e
theorem asgT_sh {Γ : Gm} {p : MH} (G : GOk Γ p) : ∀ (t : Tg) (x : D) (σ σ' : En) (h : MH) (σ1 : En) (h1 : MH), SRel p.length σ σ' → asgT Γ t x σ h = some (σ1, h1) → ∃ σ1', SRel p.length σ1 σ1' ∧ asgT Γ t (shD p.length x) σ' (up p h) = some (σ1', up p h1)
  | .nm i, x, σ, σ', h, σ1, h1, R, e => by cases e; exact ⟨_, R.set i x, rfl⟩
  | .tp ts, x, σ, σ', h, σ1, h1, R, e => by
    have e : (itemsD h x).bind (fun xs => asgTs Γ ts xs σ h) = some (σ1, h1) := e
    cases q : itemsD h x with
    | none => rw [q] at e; cases e
    | some xs =>
      rw [q] at e
      obtain ⟨σ1', R1, e1⟩ := asgTs_sh G ts xs σ σ' h σ1 h1 R e
      refine ⟨σ1', R1, ?_⟩
      show (itemsD (up p h) (shD _ x)).bind _ = _
      rw [itemsD_sh, q]
      exact e1
  | .sub o i, x, σ, σ', h, σ1, h1, R, e => by
    obtain ⟨u, h2, e1, e2⟩ := bind_pair (show (ev Γ o σ h).bind _ = _ from e)
    obtain ⟨v, h3, e3, e4⟩ := bind_pair e2
    obtain ⟨r, e5, e6⟩ := Option.map_eq_some_iff.mp e4
    cases e6
    refine ⟨σ', R, ?_⟩
    show (ev Γ o σ' (up p h)).bind _ = _
    rw [ev_sh G o _ σ' h u h2 R e1]
    show (ev Γ i σ' (up p h2)).bind _ = _
    rw [ev_sh G i _ σ' h2 v h3 R e3]
    show (setD (up p _) (shD _ u) (shD _ v) (shD _ x)).map _ = _
    rw [setD_sh _ u v x e5]; rfl
theorem asgTs_sh {Γ : Gm} {p : MH} (G : GOk Γ p) : ∀ (ts : List Tg) (xs : List D) (σ σ' : En) (h : MH) (σ1 : En) (h1 : MH), SRel p.length σ σ' → asgTs Γ ts xs σ h = some (σ1, h1) → ∃ σ1', SRel p.length σ1 σ1' ∧ asgTs Γ ts (shDs p.length xs) σ' (up p h) = some (σ1', up p h1)
  | [], [], σ, σ', h, σ1, h1, R, e => by cases e; exact ⟨σ', R, rfl⟩
  | [], _ :: _, σ, σ', h, σ1, h1, R, e => by cases e
  | _ :: _, [], σ, σ', h, σ1, h1, R, e => by cases e
  | t :: r, d :: ds, σ, σ', h, σ1, h1, R, e => by
    obtain ⟨σ2, h2, e1, e2⟩ := bind_pair (show (asgT Γ t d σ h).bind _ = _ from e)
    obtain ⟨σ2', R2, e3⟩ := asgT_sh G t d σ σ' h σ2 h2 R e1
    obtain ⟨σ3', R3, e4⟩ := asgTs_sh G r ds σ2 σ2' h2 σ1 h1 R2 e2
    refine ⟨σ3', R3, ?_⟩
    show (asgT Γ t (shD _ d) σ' (up p h)).bind _ = _
    rw [e3]
    exact e4
theorem evIt_sh {Γ : Gm} {p : MH} (G : GOk Γ p) : ∀ (it : It) (σ σ' : En) (h : MH) (src : Src) (h1 : MH), SRel p.length σ σ' → evIt Γ it σ h = some (src, h1) → evIt Γ it σ' (up p h) = some (shSrc p.length src, up p h1)
  | .ex x, σ, σ', h, src, h1, R, e => by
    obtain ⟨u, h2, e1, e2⟩ := bind_pair (show (ev Γ x σ h).bind _ = _ from e)
    show (ev Γ x σ' (up p h)).bind _ = _
    rw [ev_sh G x σ σ' h u h2 R e1]
    simp only at e2
    split at e2
    · rename_i c
      cases e2
      show (if (itemsD (up p _) (shD _ u)).isSome = true then some (Src.sq (shD _ u), _) else none) = _
      rw [itemsD_sh, Option.isSome_map, if_pos c]; rfl
    · cases e2
  | .rng1 a, σ, σ', h, src, h1, R, e => by
    obtain ⟨u, h2, e1, e2⟩ := bind_pair (show (ev Γ a σ h).bind _ = _ from e)
    show (ev Γ a σ' (up p h)).bind _ = _
    rw [ev_sh G a σ σ' h u h2 R e1]
    cases u <;> first | (cases e2; done) | skip
    rename_i j
    simp only at e2
    split at e2
    · rename_i c
      cases e2
      exact if_pos c
    · cases e2
  | .rng2 a b, σ, σ', h, src, h1, R, e => by
    obtain ⟨u, h2, e1, e2⟩ := bind_pair (show (ev Γ a σ h).bind _ = _ from e)
    obtain ⟨v, h3, e3, e4⟩ := bind_pair e2
    show (ev Γ a σ' (up p h)).bind _ = _
    rw [ev_sh G a σ σ' h u h2 R e1]
    show (ev Γ b σ' (up p h2)).bind _ = _
    rw [ev_sh G b σ σ' h2 v h3 R e3]
    cases u <;> first | (cases e4; done) | skip
    cases v <;> first | (cases e4; done) | skip
    simp only at e4
    split at e4
    · rename_i c
      cases e4
      exact if_pos c
    · cases e4
  | .enum a, σ, σ', h, src, h1, R, e => by
    obtain ⟨u, h2, e1, e2⟩ := bind_pair (show (ev Γ a σ h).bind _ = _ from e)
    show (ev Γ a σ' (up p h)).bind _ = _
    rw [ev_sh G a σ σ' h u h2 R e1]
    simp only at e2
    split at e2
    · rename_i c
      cases e2
      show (if (itemsD (up p _) (shD _ u)).isSome = true ∧ isL (shD _ u) = true then some (Src.enum (shD _ u), _) else none) = _
      rw [itemsD_sh, Option.isSome_map, isL_sh, if_pos c]; rfl
    · cases e2
  | .zip a b, σ, σ', h, src, h1, R, e => by
    obtain ⟨u, h2, e1, e2⟩ := bind_pair (show (ev Γ a σ h).bind _ = _ from e)
    obtain ⟨v, h3, e3, e4⟩ := bind_pair e2
    show (ev Γ a σ' (up p h)).bind _ = _
    rw [ev_sh G a σ σ' h u h2 R e1]
    show (ev Γ b σ' (up p h2)).bind _ = _
    rw [ev_sh G b σ σ' h2 v h3 R e3]
    simp only at e4
    split at e4
    · rename_i c
      cases e4
      show (if (itemsD (up p _) (shD _ u)).isSome = true ∧ (itemsD (up p _) (shD _ v)).isSome = true ∧ (!isL (shD _ u) || isL (shD _ v)) = true then some (Src.zip (shD _ u) (shD _ v), _) else none) = _
      rw [itemsD_sh, itemsD_sh, Option.isSome_map, Option.isSome_map, isL_sh, isL_sh, if_pos c]; rfl
    · cases e4
end
/-! ### statements -/
def FuOk (fu : En → MH → Nat) : Prop := ∀ (p : MH) (σ σ' : En) (h : MH), SRel p.length σ σ' → fu σ h ≤ fu σ' (up p h)
mutual
def okFu : St → Prop
  | .whl _ b fu => FuOk fu ∧ okFus b
  | .ift _ a b => okFus a ∧ okFus b
  | .for _ _ b => okFus b
  | .asg _ _ => True
  | .par _ _ _ _ => True
  | .aug _ _ _ => True
  | .expr _ => True
  | .ret _ => True
  | .retN => True
  | .pass => True
  | .brk => True
  | .cont => True
  | .never => True
def okFus : List St → Prop
  | [] => True
  | s :: r => okFu s ∧ okFus r
end
theorem fu_at (i : Nat) : FuOk (fun τ _ => fuelAt τ i) := by
  intro p σ σ' h R
  show fuelAt σ i ≤ fuelAt σ' i
  have one : 1 ≤ fuelAt σ' i := by unfold fuelAt; split <;> omega
  unfold fuelAt
  split
  · rename_i k e
    rw [R.2 i _ e]
    exact Nat.le_refl _
  · exact one
theorem fu_len (i : Nat) : FuOk (fun τ h => lenAt τ h i) := by
  intro p σ σ' h R
  show lenAt σ h i ≤ lenAt σ' (up p h) i
  have one : 1 ≤ lenAt σ' (up p h) i := by unfold lenAt; split <;> omega
  unfold lenAt
  split
  · rename_i n e
    rw [R.2 i _ e]
    show ((h[n]?).getD []).length + 1 ≤ (((up p h)[p.length + n]?).getD []).length + 1
    rw [up_get]
    cases h[n]? with
    | none => exact Nat.le_refl _
    | some xs => show xs.length + 1 ≤ (shDs _ xs).length + 1; rw [shDs_len]; exact Nat.le_refl _
  · exact one
mutual
theorem exe_sh {Γ : Gm} {p : MH} (G : GOk Γ p) : ∀ (s : St), okFu s → BRel p (exe Γ s) (exe Γ s)
  | .asg t x, _ => by
    intro σ σ' h fl σ1 h1 R e
    obtain ⟨u, h2, e1, e2⟩ := bind_pair (show (ev Γ x σ h).bind _ = _ from e)
    obtain ⟨σ2, h3, e3, e4⟩ := map_pair e2
    cases e4
    obtain ⟨σ2', R2, e5⟩ := asgT_sh G t u σ σ' h2 _ _ R e3
    refine ⟨σ2', R2, ?_⟩
    show (ev Γ x σ' (up p h)).bind _ = _
    rw [ev_sh G x σ σ' h u h2 R e1]
    show (asgT Γ t (shD _ u) σ' (up p h2)).map _ = _
    rw [e5]; rfl
  | .par i j a b, _ => by
    intro σ σ' h fl σ1 h1 R e
    obtain ⟨u, h2, e1, e2⟩ := bind_pair (show (ev Γ a σ h).bind _ = _ from e)
    obtain ⟨v, h3, e3, e4⟩ := map_pair e2
    cases e4
    refine ⟨_, (R.set i u).set j v, ?_⟩
    show (ev Γ a σ' (up p h)).bind _ = _
    rw [ev_sh G a σ σ' h u h2 R e1]
    show (ev Γ b σ' (up p h2)).map _ = _
    rw [ev_sh G b σ σ' h2 v _ R e3]; rfl
  | .aug i o x, _ => by
    intro σ σ' h fl σ1 h1 R e
    have e : (σ[i]?).bind _ = some (fl, σ1, h1) := e
    cases q : σ[i]? with
    | none => rw [q] at e; cases e
    | some w =>
      rw [q] at e
      cases w with
      | none => cases e
      | some u =>
        obtain ⟨v, h2, e1, e2⟩ := bind_pair (show (ev Γ x σ h).bind _ = _ from e)
        have ex := ev_sh G x σ σ' h v h2 R e1
        cases o <;> first | (cases e2; done) | skip
        · cases u <;> first | (cases e2; done) | skip
          cases v <;> first | (cases e2; done) | skip
          cases e2
          refine ⟨_, R.set i _, ?_⟩
          show (σ'[i]?).bind _ = _
          rw [R.2 i _ q]
          show (ev Γ x σ' (up p h)).bind _ = _
          rw [ex]; rfl
        · cases u <;> first | (cases e2; done) | skip
          cases v <;> first | (cases e2; done) | skip
          cases e2
          refine ⟨_, R.set i _, ?_⟩
          show (σ'[i]?).bind _ = _
          rw [R.2 i _ q]
          show (ev Γ x σ' (up p h)).bind _ = _
          rw [ex]; rfl
  | .expr x, _ => by
    intro σ σ' h fl σ1 h1 R e
    obtain ⟨u, h2, e1, e2⟩ := map_pair (show (ev Γ x σ h).map _ = _ from e)
    cases e2
    refine ⟨σ', R, ?_⟩
    show (ev Γ x σ' (up p h)).map _ = _
    rw [ev_sh G x _ σ' h u _ R e1]; rfl
  | .ret x, _ => by
    intro σ σ' h fl σ1 h1 R e
    obtain ⟨u, h2, e1, e2⟩ := map_pair (show (ev Γ x σ h).map _ = _ from e)
    cases e2
    refine ⟨σ', R, ?_⟩
    show (ev Γ x σ' (up p h)).map _ = _
    rw [ev_sh G x _ σ' h u _ R e1]; rfl
  | .retN, _ => by
    intro σ σ' h fl σ1 h1 R e
    cases e
    exact ⟨σ', R, rfl⟩
  | .ift c a b, ok => by
    intro σ σ' h fl σ1 h1 R e
    obtain ⟨t, h2, e1, e2⟩ := bind_pair (show (getB (ev Γ c σ h)).bind _ = _ from e)
    have g := getB_sh (fun d h1 q => ev_sh G c σ σ' h d h1 R q) e1
    cases t with
    | true =>
      obtain ⟨σ1', R1, e3⟩ := exes_sh G a ok.1 σ σ' h2 fl σ1 h1 R e2
      exact ⟨σ1', R1, (exe_ift_t g).trans e3⟩
    | false =>
      obtain ⟨σ1', R1, e3⟩ := exes_sh G b ok.2 σ σ' h2 fl σ1 h1 R e2
      exact ⟨σ1', R1, (exe_ift_f g).trans e3⟩
  | .whl c b fu, ok => by
    intro σ σ' h fl σ1 h1 R e
    exact whlL_sh (p := p) (c := fun σ h => getB (ev Γ c σ h)) (c' := fun σ h => getB (ev Γ c σ h)) (f := fun σ h => exes Γ b σ h) (f' := fun σ h => exes Γ b σ h)
      (fun σ σ' h b h1 R q => getB_sh (fun d h1 q => ev_sh G c σ σ' h d h1 R q) q) (exes_sh G b ok.2) _ _ σ σ' h fl σ1 h1 (ok.1 p σ σ' h R) R e
  | .for t it b, ok => by
    intro σ σ' h fl σ1 h1 R e
    obtain ⟨src, h2, e1, e2⟩ := bind_pair (show (evIt Γ it σ h).bind _ = _ from e)
    have ei := evIt_sh G it σ σ' h src h2 R e1
    rw [exe_for ei, srcLen_sh]
    refine forL_sh (p := p) ?_ _ _ σ σ' h2 fl σ1 h1 R e2
    intro x σ σ' h fl σ1 h1 R q
    obtain ⟨σ2, h3, q1, q2⟩ := bind_pair q
    obtain ⟨σ2', R2, q3⟩ := asgT_sh G t x σ σ' h σ2 h3 R q1
    obtain ⟨σ3', R3, q4⟩ := exes_sh G b ok σ2 σ2' h3 fl σ1 h1 R2 q2
    refine ⟨σ3', R3, ?_⟩
    show (asgT Γ t (shD _ x) σ' (up p h)).bind _ = _
    rw [q3]
    exact q4
  | .pass, _ => by
    intro σ σ' h fl σ1 h1 R e
    cases e
    exact ⟨σ', R, rfl⟩
  | .brk, _ => by
    intro σ σ' h fl σ1 h1 R e
    cases e
    exact ⟨σ', R, rfl⟩
  | .cont, _ => by
    intro σ σ' h fl σ1 h1 R e
    cases e
    exact ⟨σ', R, rfl⟩
  | .never, _ => by
    intro σ σ' h fl σ1 h1 R e
    cases e
theorem exes_sh {Γ : Gm} {p : MH} (G : GOk Γ p) : ∀ (l : List St), okFus l → BRel p (fun σ h => exes Γ l σ h) (fun σ h => exes Γ l σ h)
  | [], _ => by
    intro σ σ' h fl σ1 h1 R e
    cases e
    exact ⟨σ', R, rfl⟩
  | s :: r, ok => by
    intro σ σ' h fl σ1 h1 R e
    have e : (exe Γ s σ h).bind (fun (y : Fl × En × MH) => match y.1 with
      | .nx => exes Γ r y.2.1 y.2.2
      | .bk => some (.bk, y.2.1, y.2.2)
      | .ct => some (.ct, y.2.1, y.2.2)
      | .rt d => some (.rt d, y.2.1, y.2.2)) = some (fl, σ1, h1) := e
    cases q : exe Γ s σ h with
    | none => rw [q] at e; cases e
    | some y =>
      obtain ⟨f2, σ2, h2⟩ := y
      rw [q] at e
      obtain ⟨σ2', R2, e2⟩ := exe_sh G s ok.1 σ σ' h f2 σ2 h2 R q
      have go : exes Γ (s :: r) σ' (up p h) = (match shFl p.length f2 with
        | .nx => exes Γ r σ2' (up p h2)
        | .bk => some (.bk, σ2', up p h2)
        | .ct => some (.ct, σ2', up p h2)
        | .rt d => some (.rt d, σ2', up p h2)) := by
        show (exe Γ s σ' (up p h)).bind _ = _
        rw [e2]; rfl
      show ∃ σ1', _ ∧ exes Γ (s :: r) σ' (up p h) = _
      rw [go]
      cases f2 with
      | nx => exact exes_sh G r ok.2 σ2 σ2' h2 fl σ1 h1 R2 e
      | bk => cases e; exact ⟨σ2', R2, rfl⟩
      | ct => cases e; exact ⟨σ2', R2, rfl⟩
      | rt d => cases e; exact ⟨σ2', R2, rfl⟩
end
theorem start_up (n m : Nat) (xs : List D) : SRel n (startD m xs) (startD m (shDs n xs)) := by
  unfold startD
  refine ⟨by simp [shDs_len], fun i x e => ?_⟩
  by_cases l : i < xs.length
  · rw [List.getElem?_append_left (by rw [List.length_map]; exact l), List.getElem?_map, List.getElem?_eq_getElem l] at e
    cases e
    rw [List.getElem?_append_left (by rw [List.length_map, shDs_len]; exact l), List.getElem?_map, shDs_get, List.getElem?_eq_getElem l]; rfl
  · rw [List.getElem?_append_right (by rw [List.length_map]; omega), List.getElem?_replicate] at e
    split at e <;> cases e
theorem outD_sh {r r' : SR} (hr : ∀ fl σ1 h1, r = some (fl, σ1, h1) → ∃ σ1', r' = some (shFl p.length fl, σ1', up p h1)) {d : D} {h1 : MH} (e : outD r = some (d, h1)) : outD r' = some (shD p.length d, up p h1) := by
  cases r with
  | none => cases e
  | some y =>
    obtain ⟨fl, σ1, h2⟩ := y
    obtain ⟨σ1', q⟩ := hr fl σ1 h2 rfl
    rw [q]
    cases fl <;> first | (cases e; done) | (cases e; rfl)
/-- above any heap -/
theorem run_sh {con : Nat → D} {pat : Nat → Nat → List D → List D} {dfs : Nat → Option Df} (hc : ∀ k, noRef (con k) = true) (hp : ∀ n k q xs, pat k q (shDs n xs) = shDs n (pat k q xs)) (hf : ∀ j df, dfs j = some df → okFus df.body) (p : MH) :
    ∀ (K j : Nat) (xs : List D) (h : MH) (d : D) (h1 : MH), run con pat dfs K j xs h = some (d, h1) → run con pat dfs K j (shDs p.length xs) (up p h) = some (shD p.length d, up p h1)
  | 0, _, _, _, _, _, e => by cases e
  | K + 1, j, xs, h, d, h1, e => by
    have e : (dfs j).bind (fun df => if xs.length = df.ps then outD (exes ⟨con, run con pat dfs K, pat⟩ df.body (startD df.n xs) h) else none) = some (d, h1) := e
    cases q : dfs j with
    | none => rw [q] at e; cases e
    | some df =>
      rw [q] at e
      have e : (if xs.length = df.ps then outD (exes ⟨con, run con pat dfs K, pat⟩ df.body (startD df.n xs) h) else none) = some (d, h1) := e
      split at e
      · rename_i c
        show (dfs j).bind _ = _
        rw [q]
        show (if (shDs _ xs).length = df.ps then outD (exes ⟨con, run con pat dfs K, pat⟩ df.body (startD df.n (shDs _ xs)) (up p h)) else none) = _
        rw [shDs_len, if_pos c]
        have G : GOk ⟨con, run con pat dfs K, pat⟩ p := ⟨hc, fun k xs h d h1 e => run_sh hc hp hf p K k xs h d h1 e, fun k q xs => hp _ k q xs⟩
        refine outD_sh (fun fl σ1 h2 q2 => ?_) e
        obtain ⟨σ1', _, e3⟩ := exes_sh G df.body (hf j df q) _ _ h fl σ1 h2 (start_up p.length df.n xs) q2
        exact ⟨σ1', e3⟩
      · cases e
theorem up_nil (p : MH) : up p [] = p := by unfold up; simp
def isT (r : Option (D × MH)) : Bool := match r with
  | some (.bl b, _) => b
  | _ => false
theorem isT_of {r : Option (D × MH)} (h : isT r = true) : ∃ h1, r = some (.bl true, h1) := by
  unfold isT at h
  split at h
  · subst h; exact ⟨_, rfl⟩
  · cases h
theorem up_ap (p h : MH) : Ap p (up p h) := ⟨_, rfl⟩
theorem shDs_getD (n : Nat) (xs : List D) (i : Nat) : (shDs n xs).getD i .non = shD n (xs.getD i .non) := by
  rw [List.getD_eq_getElem?_getD, List.getD_eq_getElem?_getD, shDs_get]
  cases xs[i]? <;> rfl
def allFu : List Df → Prop
  | [] => True
  | d :: r => okFus d.body ∧ allFu r
theorem allFu_at : ∀ {l : List Df}, allFu l → ∀ (j : Nat) (df : Df), l[j]? = some df → okFus df.body
  | [], _, _, _, e => by cases e
  | d :: r, h, 0, df, e => by cases e; exact h.1
  | d :: r, h, j + 1, df, e => allFu_at h.2 j df e
theorem con_no {cs : List (Str × D)} (h : (cs.map (·.2)).all noRef = true) (k : Nat) : noRef ((cs.map (·.2)).getD k .non) = true := by
  rw [List.getD_eq_getElem?_getD]
  cases q : (cs.map (·.2))[k]? with
  | none => rfl
  | some x => exact List.all_eq_true.mp h x (List.mem_of_getElem? q)
theorem okFus_drop : ∀ (k : Nat) (l : List St), okFus l → okFus (l.drop k)
  | 0, _, h => h
  | _ + 1, [], h => h
  | k + 1, _ :: r, h => okFus_drop k r h.2
def isR (r : SR) : Bool := match r with
  | some (.rt (.bl b), _, _) => b
  | _ => false
theorem isR_of {r : SR} (h : isR r = true) : ∃ σ1 h1, r = some (.rt (.bl true), σ1, h1) := by
  unfold isR at h
  split at h
  · subst h; exact ⟨_, _, rfl⟩
  · cases h
theorem none_rel (n m : Nat) (σ : En) (hs : σ.length = m) : SRel n (List.replicate m none) σ := by
  refine ⟨by rw [List.length_replicate, hs], fun i x e => ?_⟩
  rw [List.getElem?_replicate] at e
  split at e <;> cases e
/-- statements that read no name ahead of them -/
theorem tail_up {Γ : Gm} {p : MH} (G : GOk Γ p) {l : List St} (ok : okFus l) {n : Nat} (e : isR (exes Γ l (List.replicate n none) []) = true) {σ : En} (hs : σ.length = n) : ∃ σ1 h1, exes Γ l σ p = some (.rt (.bl true), σ1, h1) := by
  obtain ⟨σ1, h1, e1⟩ := isR_of e
  obtain ⟨σ1', _, e2⟩ := exes_sh G l ok _ _ [] _ σ1 h1 (none_rel p.length n σ hs) e1
  rw [up_nil] at e2
  exact ⟨σ1', _, e2⟩
end Fq

set_option maxHeartbeats 4000000
/-! Fq: curves as data; lines that are settled. -/
namespace Fq
open PySem L2
theorem eqD_self {h : MH} {x : D} {d : PyData} (e : pdT h x = some d) (l : d.canLay0 = true) (dp : d.depth ≤ 60) : eqD h x x = some true := by
  have s : SeqAt.shaped d = true := by
    unfold SeqAt.shaped
    rw [l, decide_eq_true (show d.depth ≤ 64 by omega)]; rfl
  unfold eqD
  rw [e, ob, ob, s, if_pos (by rfl), SeqAt.eqv_refl d l]
theorem cv_self (c : Cv) (h : MH) : eqD h (cvD c) (cvD c) = some true := by
  obtain ⟨q, qs, e, l, dp⟩ := cv_pd c
  refine eqD_self (d := .tuple (q :: qs)) ?_ (by rw [PyData.canLay0]; exact l) (by rw [PyData.depth]; omega)
  cases c <;> exact e
/-! ### data that can be shown, of any depth -/
structure RpN (n B : Nat) (x : D) (d : PyData) : Prop where
  pd : pdI x = some d
  sh : d.showable = true
  nd : d.hasDict = false
  dp : d.depth ≤ n
  len : d.shown.length ≤ B
  ok : PySem.PyData.strOk d.shown = true
  lay : d.canLay0 = true
theorem Rp.n {x : D} {d : PyData} (r : Rp x d) : RpN 2 4000 x d := ⟨r.pd, r.sh, r.nd, r.dp, r.len, r.ok, r.lay⟩
theorem RpN.mono {n B m C : Nat} {x : D} {d : PyData} (r : RpN n B x d) (l : n ≤ m) (l2 : B ≤ C) : RpN m C x d := ⟨r.pd, r.sh, r.nd, Nat.le_trans r.dp l, Nat.le_trans r.len l2, r.ok, r.lay⟩
theorem rpsN {n B : Nat} {ps : List (D × PyData)} (h : ∀ p ∈ ps, RpN n B p.1 p.2) : pdIs (ps.map (·.1)) = some (ps.map (·.2)) ∧ PyData.showableAll (ps.map (·.2)) = true ∧ PyData.hasDictAll (ps.map (·.2)) = false ∧ PyData.depthAll (ps.map (·.2)) ≤ n ∧
    ((PyData.shownAll (ps.map (·.2))).map (·.length)).sum ≤ B * ps.length ∧ (PyData.shownAll (ps.map (·.2))).length = ps.length ∧ (∀ t ∈ PyData.shownAll (ps.map (·.2)), PySem.PyData.strOk t = true) ∧ PyData.canLayAll0 (ps.map (·.2)) = true := by
  induction ps with
  | nil => exact ⟨rfl, rfl, rfl, by simp [PyData.depthAll], by simp [PyData.shownAll], rfl, fun t m => (by cases m), rfl⟩
  | cons p r ih =>
    obtain ⟨b1, b2, b3, b4, b5, b6, b7, b8⟩ := ih fun x m => h x (List.mem_cons_of_mem _ m)
    have a := h p List.mem_cons_self
    refine ⟨?_, ?_, ?_, ?_, ?_, ?_, ?_, ?_⟩
    · show (pdI p.1).bind _ = _
      rw [a.pd, ob, b1]; rfl
    · rw [List.map_cons, PyData.showableAll, a.sh, b2]; rfl
    · rw [List.map_cons, PyData.hasDictAll, a.nd, b3]; rfl
    · rw [List.map_cons, PyData.depthAll]; have := a.dp; omega
    · rw [List.map_cons, PyData.shownAll, List.map_cons, List.sum_cons, List.length_cons, Nat.mul_add]; have := a.len; omega
    · rw [List.map_cons, PyData.shownAll, List.length_cons, b6, List.length_cons]
    · intro t m
      rw [List.map_cons, PyData.shownAll] at m
      rcases List.mem_cons.mp m with rfl | m
      · exact a.ok
      · exact b7 t m
    · rw [List.map_cons, PyData.canLayAll0, a.lay, b8]; rfl
theorem rpN_tup {n B : Nat} {ps : List (D × PyData)} (hp : ∀ p ∈ ps, RpN n B p.1 p.2) : RpN (n + 1) (B * ps.length + 2 * ps.length + 10) (.tup (ps.map (·.1))) (.tuple (ps.map (·.2))) := by
  obtain ⟨b1, b2, b3, b4, b5, b6, b7, b8⟩ := rpsN hp
  refine ⟨?_, ?_, ?_, ?_, ?_, strOk_tuple b7, ?_⟩
  · show (pdIs (ps.map (·.1))).map _ = _
    rw [b1]; rfl
  · rw [PyData.showable, b2]
  · rw [PyData.hasDict, b3]
  · rw [PyData.depth]; omega
  · have := tupleText_len_le (PyData.shownAll (ps.map (·.2)))
    rw [b6] at this
    show (tupleText (PyData.shownAll (ps.map (·.2)))).length ≤ _
    omega
  · rw [PyData.canLay0, b8]
theorem rpN_shown {n B : Nat} {xs : List D} {ds : List PyData} (r : RpN n B (.tup xs) (.tuple ds)) (ln : n ≤ 60) (lB : B ≤ LIM) (h : MH) : ∃ z : Str, biD .repr [.tup xs] h = some (.str z, h) ∧ eqD h (.str z) (.str z) = some true ∧ eqD h (.tup xs) (.tup xs) = some true := by
  have pt : pdT h (.tup xs) = some (.tuple ds) := r.pd
  refine ⟨(PyData.tuple ds).shown, ?_, ?_, eqD_self pt r.lay (Nat.le_trans r.dp ln)⟩
  · have e : biD .repr [.tup xs] h = (pdT h (.tup xs)).bind fun d => if shows d = true then some (.str d.shown, h) else none := rfl
    rw [e, pt, ob]
    have sh : shows (.tuple ds) = true := by
      have s1 := r.sh
      have s2 := r.nd
      have s3 := Nat.le_trans r.dp ln
      have s4 := Nat.le_trans r.len lB
      show (true && PyData.showable (.tuple ds) && !PyData.hasDict (.tuple ds) && decide ((PyData.tuple ds).depth ≤ 60) && decide ((PyData.tuple ds).shown.length ≤ LIM)) = true
      rw [s1, s2, decide_eq_true s3, decide_eq_true s4]
      rfl
    rw [if_pos sh]
  · rw [eqD_str h _ _ r.ok r.ok]
    simp
theorem rpN_w (z : Str) (o : PySem.PyData.strOk (PyData.str z).shown = true) (s : (PyData.str z).showable = true) (l : (PyData.str z).canLay0 = true) (n : (PyData.str z).shown.length ≤ 4000) : RpN 2 4000 (.str z) (.str z) := ⟨rfl, s, rfl, by rw [PyData.depth]; decide, n, o, l⟩
def oP : Option Rat → PyData
  | none => .none
  | some r => pf r
theorem rp_o (o : Option Rat) (h : ∀ r, o = some r → Sz 1900 r) : RpN 2 4000 (oD o) (oP o) := by
  cases o with
  | none => exact rp_non.n
  | some r => exact (rp_fr r (h r rfl)).n
theorem rp_pt (p : Rat × Option Rat) (h : PtOk 1900 p) : RpN 3 8100 (ptD p) (.tuple [pf p.1, oP p.2]) := by
  have := rpN_tup (ps := [(frR p.1, pf p.1), (oD p.2, oP p.2)]) (n := 2) (B := 4000) (by
    intro y hy
    simp only [List.mem_cons, List.not_mem_nil, or_false] at hy
    rcases hy with rfl | rfl
    · exact (rp_fr _ h.1).n
    · exact rp_o _ h.2)
  exact this.mono (Nat.le_refl _) (by simp)
/-- a line can be shown -/
theorem lin_shown {ps : List (Rat × Option Rat)} (h : ∀ p ∈ ps, PtOk 1900 p) (l : ps.length ≤ 40) (hh : MH) : ∃ z : Str, biD .repr [cvD (.lin ps)] hh = some (.str z, hh) ∧ eqD hh (.str z) (.str z) = some true := by
  have a := rpN_tup (ps := ps.map fun p => (ptD p, PyData.tuple [pf p.1, oP p.2])) (n := 3) (B := 8100) (by
    intro y hy
    obtain ⟨p, hp, rfl⟩ := List.mem_map.mp hy
    exact rp_pt p (h p hp))
  rw [List.map_map, List.map_map, List.length_map] at a
  have a : RpN 4 (8100 * ps.length + 2 * ps.length + 10) (.tup (ps.map ptD)) (.tuple (ps.map fun p => .tuple [pf p.1, oP p.2])) := a
  have b := rpN_tup (ps := [(.str "linear", .str "linear"), (.tup (ps.map ptD), .tuple (ps.map fun p => .tuple [pf p.1, oP p.2]))]) (n := 4) (B := 330000) (by
    intro y hy
    simp only [List.mem_cons, List.not_mem_nil, or_false] at hy
    rcases hy with rfl | rfl
    · exact (rpN_w "linear" (by decide +kernel) (by decide +kernel) (by decide +kernel) (by decide +kernel)).mono (by decide) (by decide)
    · exact a.mono (Nat.le_refl _) (by omega))
  have c := rpN_shown (xs := [.str "linear", .tup (ps.map ptD)]) (ds := [.str "linear", .tuple (ps.map fun p => .tuple [pf p.1, oP p.2])]) (RpN.mono b (m := 5) (C := LIM) (by decide) (by
    show 330000 * 2 + 2 * 2 + 10 ≤ 1000000
    decide)) (by decide) (Nat.le_refl _) hh
  obtain ⟨z, c1, c2, _⟩ := c
  exact ⟨z, c1, c2⟩
/-! ### settled lines do not fall -/
def Ndc : Rat → List Rat → Prop
  | _, [] => True
  | a, b :: r => a ≤ b ∧ Ndc b r
def Upo : Rat → OL → Prop
  | _, [] => True
  | a, none :: r => Upo a r
  | a, some b :: r => a ≤ b ∧ Upo b r
theorem upo_nxt : ∀ {a : Rat} {r : OL} {n : Nat} {b : Rat}, Upo a r → nxt r = some (n, b) → a ≤ b
  | _, [], _, _, _, e => by cases e
  | a, some c :: r, n, b, u, e => by cases e; exact u.1
  | a, none :: r, n, b, u, e => by
    obtain ⟨⟨m, c⟩, e1, e2⟩ := Option.map_eq_some_iff.mp (show (Fq.nxt r).map _ = _ from e)
    cases e2
    exact upo_nxt (a := a) (r := r) u e1
theorem upo_raise : ∀ {a v : Rat} {r : OL} {n : Nat} {b : Rat}, Upo a r → nxt r = some (n, b) → v ≤ b → Upo v r
  | _, _, [], _, _, _, e, _ => by cases e
  | a, v, some c :: r, n, b, u, e, l => by cases e; exact ⟨l, u.2⟩
  | a, v, none :: r, n, b, u, e, l => by
    obtain ⟨⟨m, c⟩, e1, e2⟩ := Option.map_eq_some_iff.mp (show (Fq.nxt r).map _ = _ from e)
    cases e2
    exact upo_raise (a := a) (v := v) (r := r) u e1 l
theorem rmx_up : ∀ (m : Rat) (L : OL), Upo m (rmx m L)
  | _, [] => trivial
  | m, none :: r => rmx_up m r
  | m, some x :: r => ⟨by split <;> grind, rmx_up _ r⟩
theorem spr_ndc : ∀ (a : Rat) (L : OL), Upo a L → Ndc a (spr a L)
  | _, [], _ => trivial
  | a, some b :: r, u => ⟨u.1, spr_ndc b r u.2⟩
  | a, none :: r, u => by
    unfold spr
    split
    · rename_i n b e
      have ab := upo_nxt (r := r) u e
      have d0 : (0 : Rat) ≤ b - a := by grind
      have n0 : (0 : Rat) ≤ (n : Rat) := by exact_mod_cast Nat.zero_le n
      have n2 : (0 : Rat) < (n : Rat) + 2 := by grind
      obtain ⟨q, hq⟩ : ∃ q, (b - a) / ((n : Rat) + 2) = q := ⟨_, rfl⟩
      have e2 : q * ((n : Rat) + 2) = b - a := by
        rw [← hq]
        have : (n : Rat) + 2 ≠ 0 := by grind
        grind
      have q0 : 0 ≤ q := by
        rcases Rat.le_total (a := 0) (b := q) with z | z
        · exact z
        · have h1 : 0 ≤ (-q) * ((n : Rat) + 2) := Rat.mul_nonneg (by grind) (by grind)
          have h2 : b - a = 0 := by grind
          rw [h2] at hq
          rw [← hq, Rat.div_def, Rat.zero_mul]
          exact Rat.le_refl
      have e3 : q * ((n : Rat) + 2) = q * (n : Rat) + 2 * q := by grind
      have e4 : 0 ≤ q * (n : Rat) := Rat.mul_nonneg q0 n0
      rw [hq]
      exact ⟨by grind, spr_ndc _ r (upo_raise (r := r) u e (by grind))⟩
    · exact ⟨by grind, spr_ndc a r u⟩
theorem setI_ndc (L : OL) (h : L ≠ []) : ∃ a F, setI L = a :: F ∧ Ndc a F := by
  obtain ⟨a, t, e, l, len, t2, e1, e2⟩ := told1_ok L h
  refine ⟨a, spr a t, by unfold setI; rw [e]; rfl, spr_ndc a t ?_⟩
  rw [e2]
  exact rmx_up a t2
/-! ### settled again, nothing changes -/
theorem rmx_some : ∀ (a : Rat) (F : List Rat), Ndc a F → rmx a (F.map some) = F.map some
  | _, [], _ => rfl
  | a, b :: r, h => by
    show some (if a < b then b else a) :: rmx (if a < b then b else a) (r.map some) = _
    have e : (if a < b then b else a) = b := by split <;> (have := h.1; grind)
    rw [e, rmx_some b r h.2]; rfl
theorem spr_some : ∀ (a : Rat) (F : List Rat), spr a (F.map some) = F
  | _, [] => rfl
  | a, b :: r => by show b :: spr b (r.map some) = _; rw [spr_some b r]
theorem endsN_some : ∀ F : List Rat, endsN (F.map some) = F.map some
  | [] => rfl
  | [a] => rfl
  | a :: b :: r => by
    show endsN (some a :: some b :: r.map some) = _
    rw [endsN_cons]
    have := endsN_some (b :: r)
    show some a :: endsN ((b :: r).map some) = _
    rw [this]; rfl
theorem setI_some {a : Rat} {F : List Rat} (h : Ndc a F) : setI ((a :: F).map some) = a :: F := by
  have e1 : ends ((a :: F).map some) = (a :: F).map some := by
    unfold ends
    show endsN (ends1 (some a :: F.map some)) = _
    show endsN (some a :: F.map some) = _
    exact endsN_some (a :: F)
  have e2 : told1 ((a :: F).map some) = (a :: F).map some := by
    unfold told1
    rw [e1]
    show some (if a < a then a else a) :: rmx (if a < a then a else a) (F.map some) = _
    rw [if_neg (by grind), rmx_some a F h]; rfl
  unfold setI
  rw [e2]
  show a :: spr a (F.map some) = _
  rw [spr_some]
/-- the points of a line, all told -/
def setPs (ps : List (Rat × Option Rat)) : List (Rat × Option Rat) := (setP ps).map fun p => (p.1, some p.2)
theorem setPs_len (ps : List (Rat × Option Rat)) : (setPs ps).length = ps.length := by unfold setPs; rw [List.length_map, setP_len]
theorem setPs_nil {ps : List (Rat × Option Rat)} (h : ps ≠ []) : setPs ps ≠ [] := by
  intro z
  have := setPs_len ps
  rw [z] at this
  exact h (List.length_eq_zero_iff.mp this.symm)
theorem setP_again {ps : List (Rat × Option Rat)} (h : ps ≠ []) : setP (setPs ps) = setP ps := by
  have e1 : (setPs ps).map (·.1) = ps.map (·.1) := by
    unfold setPs
    rw [List.map_map]
    exact setP_fst ps
  have e2 : (setPs ps).map (·.2) = (setI (ps.map (·.2))).map some := by
    unfold setPs
    rw [List.map_map, ← setP_snd, List.map_map]
    rfl
  obtain ⟨a, F, e3, nd⟩ := setI_ndc (ps.map (·.2)) (by simpa using h)
  show ((setPs ps).map (·.1)).zip (setI ((setPs ps).map (·.2))) = (ps.map (·.1)).zip (setI (ps.map (·.2)))
  rw [e1, e2, e3, setI_some nd]
theorem lnV_again {ps : List (Rat × Option Rat)} (h : ps ≠ []) (x : Rat) : lnV (setPs ps) x = lnV ps x := by
  unfold lnV
  rw [setP_again h]
theorem setPs_ok {m : Nat} (m0 : 0 < m) {ps : List (Rat × Option Rat)} (l : ps.length < 1000) (h : ∀ p ∈ ps, PtOk m p) : ∀ p ∈ setPs ps, PtOk (3 * m + 12) p := by
  intro p hp
  obtain ⟨q, hq, rfl⟩ := List.mem_map.mp hp
  have z := setP_sz m0 l h q hq
  exact ⟨z.1.mono (by omega), fun r hr => by cases hr; exact z.2⟩
end Fq

set_option maxHeartbeats 8000000
namespace Fq.La
open PySem PySem.Spec PyProof.Rows L2 Fq
/-! ### the text of the law, in small: framecues_k12_progress_of_all_lengths -/
def b_is_whole : List St := [(.ret (.andE [(.isi (.var 0) "int"), (.notE (.isi (.var 0) "bool"))]))]
def b_divisor : List St := [(.whl (.cmp .gt (.var 1) (.int 0)) [(.par 0 1 (.var 1) (.bin .mod (.var 0) (.var 1)))] (fun τ _ => fuelAt τ 1)), (.ret (.var 0))]
def b_is_fraction : List St := [(.ift (.orE [(.notE (.isi (.var 0) "tuple")), (.cmp .ne (.bi .len [(.var 0)]) (.int 2)), (.notE (.call 0 [(.idx (.var 0) (.int 0))])), (.notE (.call 0 [(.idx (.var 0) (.int 1))]))]) [(.ret (.bl false))] []), (.ret (.andE [(.cmp .ge (.idx (.var 0) (.int 1)) (.int 1)), (.cmp .eq (.call 1 [(.bi .abs [(.idx (.var 0) (.int 0))]), (.idx (.var 0) (.int 1))]) (.int 1))]))]
def b_is_endless : List St := [(.ret (.andE [(.isi (.var 0) "str"), (.cmp .eq (.var 0) (.glob 0))]))]
def b_ratio : List St := [(.ift (.cmp .lt (.var 1) (.int 0)) [(.par 0 1 (.bin .sub (.int 0) (.var 0)) (.bin .sub (.int 0) (.var 1)))] []), (.asg (.nm 2) (.call 1 [(.bi .abs [(.var 0)]), (.var 1)])), (.ret (.tup [(.bin .fdiv (.var 0) (.var 2)), (.bin .fdiv (.var 1) (.var 2))]))]
def b_plus : List St := [(.ift (.orE [(.call 3 [(.var 0)]), (.call 3 [(.var 1)])]) [(.ret (.glob 0))] []), (.ret (.call 4 [(.bin .add (.bin .mul (.idx (.var 0) (.int 0)) (.idx (.var 1) (.int 1))) (.bin .mul (.idx (.var 1) (.int 0)) (.idx (.var 0) (.int 1)))), (.bin .mul (.idx (.var 0) (.int 1)) (.idx (.var 1) (.int 1)))]))]
def b_minus : List St := [(.ift (.call 3 [(.var 0)]) [(.ret (.glob 0))] []), (.ret (.call 4 [(.bin .sub (.bin .mul (.idx (.var 0) (.int 0)) (.idx (.var 1) (.int 1))) (.bin .mul (.idx (.var 1) (.int 0)) (.idx (.var 0) (.int 1)))), (.bin .mul (.idx (.var 0) (.int 1)) (.idx (.var 1) (.int 1)))]))]
def b_product : List St := [(.ift (.cmp .isin (.glob 1) (.tup [(.var 0), (.var 1)])) [(.ret (.glob 1))] []), (.ift (.orE [(.call 3 [(.var 0)]), (.call 3 [(.var 1)])]) [(.ret (.glob 0))] []), (.ret (.call 4 [(.bin .mul (.idx (.var 0) (.int 0)) (.idx (.var 1) (.int 0))), (.bin .mul (.idx (.var 0) (.int 1)) (.idx (.var 1) (.int 1)))]))]
def b_quotient : List St := [(.ret (.call 4 [(.bin .mul (.idx (.var 0) (.int 0)) (.idx (.var 1) (.int 1))), (.bin .mul (.idx (.var 0) (.int 1)) (.idx (.var 1) (.int 0)))]))]
def b_less : List St := [(.ift (.call 3 [(.var 0)]) [(.ret (.bl false))] []), (.ret (.orE [(.call 3 [(.var 1)]), (.cmp .lt (.bin .mul (.idx (.var 0) (.int 0)) (.idx (.var 1) (.int 1))) (.bin .mul (.idx (.var 1) (.int 0)) (.idx (.var 0) (.int 1))))]))]
def b_lesser : List St := [(.ret (.ife (.call 9 [(.var 0), (.var 1)]) (.var 0) (.var 1)))]
def b_greater : List St := [(.ret (.ife (.call 9 [(.var 0), (.var 1)]) (.var 1) (.var 0)))]
def b_floor_of : List St := [(.ret (.bin .fdiv (.idx (.var 0) (.int 0)) (.idx (.var 0) (.int 1))))]
def b_part_of : List St := [(.ret (.ife (.cmp .ne (.bin .mod (.idx (.var 0) (.int 0)) (.idx (.var 0) (.int 1))) (.int 0)) (.tup [(.bin .mod (.idx (.var 0) (.int 0)) (.idx (.var 0) (.int 1))), (.idx (.var 0) (.int 1))]) (.glob 1)))]
def b_as_fraction : List St := [(.ret (.tup [(.var 0), (.int 1)]))]
def b_is_point : List St := [(.ift (.orE [(.notE (.isi (.var 0) "tuple")), (.cmp .ne (.bi .len [(.var 0)]) (.int 2)), (.notE (.call 2 [(.idx (.var 0) (.int 0))]))]) [(.ret (.bl false))] []), (.ret (.orE [(.isN (.idx (.var 0) (.int 1))), (.call 2 [(.idx (.var 0) (.int 1))])]))]
def b_is_curve : List St := [(.ift (.orE [(.notE (.isi (.var 0) "tuple")), (.cmp .eq (.var 0) (.tup [])), (.notE (.isi (.idx (.var 0) (.int 0)) "str"))]) [(.ret (.bl false))] []), (.ift (.andE [(.cmp .eq (.idx (.var 0) (.int 0)) (.str "linear")), (.cmp .eq (.bi .len [(.var 0)]) (.int 2))]) [(.ret (.andE [(.isi (.idx (.var 0) (.int 1)) "tuple"), (.cmp .ne (.idx (.var 0) (.int 1)) (.tup [])), (.bi .all [(.lc (.call 15 [(.var 1)]) (.nm 1) (.ex (.idx (.var 0) (.int 1))) [])])]))] []), (.ift (.andE [(.cmp .eq (.idx (.var 0) (.int 0)) (.str "cubic")), (.cmp .eq (.bi .len [(.var 0)]) (.int 3))]) [(.ret (.andE [(.call 2 [(.idx (.var 0) (.int 1))]), (.call 2 [(.idx (.var 0) (.int 2))])]))] []), (.ift (.orE [(.cmp .ne (.idx (.var 0) (.int 0)) (.str "steps")), (.cmp .ne (.bi .len [(.var 0)]) (.int 3)), (.notE (.call 0 [(.idx (.var 0) (.int 1))])), (.notE (.isi (.idx (.var 0) (.int 2)) "str"))]) [(.ret (.bl false))] []), (.ret (.andE [(.cmp .isin (.idx (.var 0) (.int 2)) (.glob 3)), (.cmp .ge (.idx (.var 0) (.int 1)) (.bin .add (.int 1) (.bi .int [(.cmp .eq (.idx (.var 0) (.int 2)) (.str "none"))])))]))]
def b_spread : List St := [(.asg (.nm 1) (.bi .list [(.var 0)])), (.asg (.nm 2) (.int 0)), (.whl (.cmp .lt (.var 2) (.bi .len [(.var 1)])) [(.asg (.nm 3) (.bin .add (.var 2) (.int 1))), (.whl (.andE [(.cmp .lt (.var 3) (.bi .len [(.var 1)])), (.isN (.idx (.var 1) (.var 3)))]) [(.aug 3 .add (.int 1))] (fun τ h => lenAt τ h 1)), (.ift (.cmp .lt (.var 3) (.bi .len [(.var 1)])) [(.asg (.nm 4) (.call 6 [(.idx (.var 1) (.var 3)), (.idx (.var 1) (.var 2))])), (.for (.nm 5) (.rng2 (.bin .add (.var 2) (.int 1)) (.var 3)) [(.asg (.sub (.var 1) (.var 5)) (.call 5 [(.idx (.var 1) (.var 2)), (.call 7 [(.var 4), (.call 4 [(.bin .sub (.var 5) (.var 2)), (.bin .sub (.var 3) (.var 2))])])]))])] []), (.asg (.nm 2) (.var 3))] (fun τ h => lenAt τ h 1)), (.ret (.var 1))]
def b_settled_points : List St := [(.asg (.nm 1) (.lc (.idx (.var 5) (.int 1)) (.nm 5) (.ex (.var 0)) [])), (.ift (.isN (.idx (.var 1) (.int 0))) [(.asg (.sub (.var 1) (.int 0)) (.glob 1))] []), (.ift (.isN (.idx (.var 1) (.neg (.int 1)))) [(.asg (.sub (.var 1) (.neg (.int 1))) (.glob 2))] []), (.asg (.nm 2) (.idx (.var 1) (.int 0))), (.for (.tp [(.nm 3), (.nm 4)]) (.enum (.bi .list [(.var 1)])) [(.ift (.notN (.var 4)) [(.asg (.nm 2) (.call 11 [(.var 2), (.var 4)])), (.asg (.sub (.var 1) (.var 3)) (.var 2))] [])]), (.ret (.bi .tuple [(.lc (.tup [(.idx (.var 5) (.int 0)), (.var 4)]) (.tp [(.nm 5), (.nm 4)]) (.zip (.var 0) (.call 17 [(.var 1)])) [])]))]
def b_linear_value : List St := [(.asg (.nm 0) (.call 18 [(.var 0)])), (.ift (.cmp .eq (.bi .len [(.var 0)]) (.int 1)) [(.ret (.idx (.idx (.var 0) (.int 0)) (.int 0)))] []), (.asg (.nm 2) (.lc (.var 3) (.nm 3) (.rng1 (.bin .sub (.bi .len [(.var 0)]) (.int 1))) [(.notE (.call 9 [(.var 1), (.idx (.idx (.var 0) (.var 3)) (.int 1))]))])), (.asg (.nm 3) (.ife (.cmp .ne (.var 2) (.lst [])) (.idx (.var 2) (.neg (.int 1))) (.int 0))), (.par 5 6 (.idx (.var 0) (.var 3)) (.idx (.var 0) (.bin .add (.var 3) (.int 1)))), (.ift (.cmp .eq (.idx (.var 5) (.int 1)) (.idx (.var 6) (.int 1))) [(.ret (.idx (.var 6) (.int 0)))] []), (.asg (.nm 4) (.call 8 [(.call 6 [(.var 1), (.idx (.var 5) (.int 1))]), (.call 6 [(.idx (.var 6) (.int 1)), (.idx (.var 5) (.int 1))])])), (.ret (.call 5 [(.idx (.var 5) (.int 0)), (.call 7 [(.call 6 [(.idx (.var 6) (.int 0)), (.idx (.var 5) (.int 0))]), (.var 4)])]))]
def b_cubic_value : List St := [(.ift (.call 9 [(.var 2), (.glob 1)]) [(.ret (.call 7 [(.call 14 [(.int 3)]), (.call 7 [(.var 0), (.var 2)])]))] []), (.ift (.call 9 [(.glob 2), (.var 2)]) [(.ret (.call 5 [(.glob 2), (.call 7 [(.call 14 [(.int 3)]), (.call 7 [(.call 6 [(.glob 2), (.var 1)]), (.call 6 [(.var 2), (.glob 2)])])])]))] []), (.asg (.nm 3) (.call 6 [(.glob 2), (.var 2)])), (.asg (.nm 4) (.call 7 [(.call 14 [(.int 3)]), (.call 7 [(.call 7 [(.var 3), (.var 3)]), (.call 7 [(.var 2), (.var 0)])])])), (.asg (.nm 5) (.call 7 [(.call 14 [(.int 3)]), (.call 7 [(.call 7 [(.var 3), (.var 2)]), (.call 7 [(.var 2), (.var 1)])])])), (.ret (.call 5 [(.call 5 [(.var 4), (.var 5)]), (.call 7 [(.var 2), (.call 7 [(.var 2), (.var 2)])])]))]
def b_steps_value : List St := [(.asg (.nm 4) (.call 7 [(.var 2), (.call 14 [(.var 0)])])), (.asg (.nm 5) (.bin .add (.call 12 [(.var 4)]) (.bi .int [(.cmp .isin (.var 1) (.tup [(.str "start"), (.str "both")]))]))), (.ift (.andE [(.var 3), (.cmp .eq (.idx (.var 4) (.int 1)) (.int 1))]) [(.aug 5 .sub (.int 1))] []), (.ift (.notE (.call 9 [(.var 2), (.glob 1)])) [(.asg (.nm 5) (.bi .max2 [(.var 5), (.int 0)]))] []), (.asg (.nm 6) (.bin .sub (.bin .add (.var 0) (.bi .int [(.cmp .eq (.var 1) (.str "both"))])) (.bi .int [(.cmp .eq (.var 1) (.str "none"))]))), (.ift (.notE (.call 9 [(.glob 2), (.var 2)])) [(.asg (.nm 5) (.bi .min2 [(.var 5), (.var 6)]))] []), (.ret (.call 4 [(.var 5), (.var 6)]))]
def b_led : List St := [(.ift (.cmp .eq (.idx (.var 0) (.int 0)) (.str "linear")) [(.ret (.call 19 [(.idx (.var 0) (.int 1)), (.var 1)]))] []), (.ift (.cmp .eq (.idx (.var 0) (.int 0)) (.str "cubic")) [(.ret (.call 20 [(.idx (.var 0) (.int 1)), (.idx (.var 0) (.int 2)), (.var 1)]))] []), (.ret (.call 21 [(.idx (.var 0) (.int 1)), (.idx (.var 0) (.int 2)), (.var 1), (.var 2)]))]
def b_is_amount : List St := [(.ret (.andE [(.call 2 [(.var 0)]), (.cmp .ge (.idx (.var 0) (.int 0)) (.int 0))]))]
def b_is_timing : List St := [(.ift (.orE [(.notE (.isi (.var 0) "tuple")), (.cmp .ne (.bi .len [(.var 0)]) (.int 8)), (.notE (.call 2 [(.idx (.var 0) (.int 0))])), (.notE (.call 2 [(.idx (.var 0) (.int 1))]))]) [(.ret (.bl false))] []), (.asg (.tp [(.nm 1), (.nm 2), (.nm 3), (.nm 4), (.nm 5), (.nm 6), (.nm 7), (.nm 8)]) (.var 0)), (.ift (.orE [(.notE (.isi (.var 3) "str")), (.cmp .notin (.var 3) (.glob 4)), (.notE (.isi (.var 7) "str")), (.cmp .notin (.var 7) (.glob 5))]) [(.ret (.bl false))] []), (.ift (.orE [(.notE (.call 23 [(.var 4)])), (.andE [(.notE (.call 23 [(.var 5)])), (.notE (.call 3 [(.var 5)]))])]) [(.ret (.bl false))] []), (.ret (.andE [(.orE [(.isN (.var 6)), (.call 23 [(.var 6)]), (.call 3 [(.var 6)])]), (.call 16 [(.var 8)])]))]
def b_length_of : List St := [(.ret (.ife (.isN (.idx (.var 0) (.int 5))) (.glob 1) (.idx (.var 0) (.int 5))))]
def b_active_length : List St := [(.ret (.call 7 [(.call 25 [(.var 0)]), (.idx (.var 0) (.int 4))]))]
def b_all_edges : List St := [(.asg (.nm 1) (.call 26 [(.var 0)])), (.asg (.nm 2) (.call 11 [(.call 5 [(.call 5 [(.idx (.var 0) (.int 0)), (.var 1)]), (.idx (.var 0) (.int 1))]), (.glob 1)])), (.asg (.nm 3) (.call 11 [(.call 10 [(.idx (.var 0) (.int 0)), (.var 2)]), (.glob 1)])), (.asg (.nm 4) (.call 11 [(.call 10 [(.call 5 [(.idx (.var 0) (.int 0)), (.var 1)]), (.var 2)]), (.glob 1)])), (.ret (.tup [(.var 3), (.var 4), (.var 2)]))]
def b_phase_of : List St := [(.ift (.isN (.var 1)) [(.ret (.str "idle"))] []), (.asg (.tp [(.nm 3), (.nm 4), (.nm 5)]) (.call 27 [(.var 0)])), (.ift (.orE [(.call 9 [(.var 1), (.var 3)]), (.andE [(.cmp .eq (.var 1) (.var 3)), (.cmp .eq (.var 2) (.neg (.int 1)))])]) [(.ret (.str "before"))] []), (.ift (.orE [(.call 9 [(.var 4), (.var 1)]), (.andE [(.cmp .eq (.var 1) (.var 4)), (.cmp .eq (.var 2) (.int 1))])]) [(.ret (.str "after"))] []), (.ret (.str "active"))]
def b_active_time : List St := [(.ift (.cmp .eq (.var 2) (.str "active")) [(.ret (.call 6 [(.var 1), (.idx (.var 0) (.int 0))]))] []), (.ift (.andE [(.cmp .eq (.var 2) (.str "before")), (.cmp .isin (.var 3) (.tup [(.str "backwards"), (.str "both")]))]) [(.ret (.call 11 [(.call 6 [(.var 1), (.idx (.var 0) (.int 0))]), (.glob 1)]))] []), (.ift (.andE [(.cmp .eq (.var 2) (.str "after")), (.cmp .isin (.var 3) (.tup [(.str "forwards"), (.str "both")]))]) [(.ret (.call 11 [(.call 10 [(.call 6 [(.var 1), (.idx (.var 0) (.int 0))]), (.call 26 [(.var 0)])]), (.glob 1)]))] []), (.ret .non)]
def b_overall_of : List St := [(.asg (.nm 3) (.call 25 [(.var 0)])), (.ift (.cmp .eq (.var 3) (.glob 1)) [(.ret (.ife (.cmp .eq (.var 1) (.str "before")) (.idx (.var 0) (.int 3)) (.call 5 [(.idx (.var 0) (.int 3)), (.idx (.var 0) (.int 4))])))] []), (.ift (.call 3 [(.var 3)]) [(.ret (.idx (.var 0) (.int 3)))] []), (.ret (.call 5 [(.idx (.var 0) (.int 3)), (.call 8 [(.var 2), (.var 3)])]))]
def b_simple_of : List St := [(.asg (.nm 4) (.ife (.call 3 [(.var 3)]) (.call 13 [(.idx (.var 0) (.int 3))]) (.call 13 [(.var 3)]))), (.ift (.andE [(.cmp .eq (.var 4) (.glob 1)), (.cmp .isin (.var 1) (.tup [(.str "active"), (.str "after")])), (.cmp .eq (.var 2) (.call 26 [(.var 0)])), (.cmp .ne (.idx (.var 0) (.int 4)) (.glob 1))]) [(.ret (.glob 2))] []), (.ret (.var 4))]
def b_iteration_of : List St := [(.ift (.orE [(.call 3 [(.var 2)]), (.andE [(.cmp .eq (.var 1) (.str "after")), (.call 3 [(.idx (.var 0) (.int 4))])])]) [(.ret (.glob 0))] []), (.ret (.bin .sub (.call 12 [(.var 2)]) (.bi .int [(.cmp .eq (.var 3) (.glob 2))])))]
def b_direction_of : List St := [(.ift (.cmp .isin (.var 0) (.tup [(.str "normal"), (.str "reverse")])) [(.ret (.ife (.cmp .eq (.var 0) (.str "normal")) (.int 1) (.neg (.int 1))))] []), (.ift (.call 3 [(.var 1)]) [(.ret (.int 1))] []), (.ret (.ife (.cmp .eq (.bin .mod (.bin .add (.var 1) (.bi .int [(.cmp .eq (.var 0) (.str "alternate reverse"))])) (.int 2)) (.int 0)) (.int 1) (.neg (.int 1))))]
def b_told_in : List St := [(.asg (.nm 3) (.call 28 [(.var 0), (.var 1), (.var 2)])), (.asg (.nm 4) (.call 29 [(.var 0), (.var 1), (.var 3), (.idx (.var 0) (.int 2))])), (.ift (.isN (.var 4)) [(.ret (.tup [(.var 3), .non, .non, .non, .non, .non, .non]))] []), (.asg (.nm 5) (.call 30 [(.var 0), (.var 3), (.var 4)])), (.asg (.nm 6) (.call 31 [(.var 0), (.var 3), (.var 4), (.var 5)])), (.asg (.nm 7) (.call 32 [(.var 0), (.var 3), (.var 5), (.var 6)])), (.asg (.nm 8) (.call 33 [(.idx (.var 0) (.int 6)), (.var 7)])), (.asg (.nm 9) (.ife (.cmp .eq (.var 8) (.int 1)) (.var 6) (.call 6 [(.glob 2), (.var 6)]))), (.asg (.nm 10) (.cmp .isin (.tup [(.var 3), (.var 8)]) (.tup [(.tup [(.str "before"), (.int 1)]), (.tup [(.str "after"), (.neg (.int 1))])]))), (.ret (.tup [(.var 3), (.var 4), (.var 5), (.var 6), (.var 7), (.var 9), (.call 22 [(.idx (.var 0) (.int 7)), (.var 9), (.var 10)])]))]
def b_check_timing : List St := [(.ift (.notE (.call 24 [(.var 0)])) [.never] [])]
def b_told_at : List St := [(.expr (.call 35 [(.var 0)])), (.ift (.andE [(.notN (.var 1)), (.notE (.call 2 [(.var 1)]))]) [.never] []), (.ift (.orE [(.notE (.call 0 [(.var 2)])), (.cmp .notin (.var 2) (.tup [(.int 1), (.neg (.int 1))]))]) [.never] []), (.ret (.call 34 [(.var 0), (.var 1), (.var 2)]))]
def b_law_cell_at : List St := [(.ift (.cmp .lt (.var 1) (.bi .len [(.var 0)])) [(.ret (.idx (.var 0) (.var 1)))] []), (.ret (.int 0))]
def b_law_mixed : List St := [(.asg (.nm 2) (.bin .add (.bin .mod (.bi .int [(.var 0)]) (.int 2147483629)) (.bin .mul (.bin .fdiv (.var 0) (.int 2147483629)) (.int 30011)))), (.asg (.nm 2) (.bin .mod (.bi .int [(.bin .mul (.bin .add (.bin .add (.var 2) (.bin .mul (.int 69621) (.var 1))) (.int 1)) (.int 48271))]) (.int 2147483629))), (.asg (.nm 2) (.bin .mod (.bi .int [(.bin .mul (.var 2) (.bin .add (.bin .add (.bin .fdiv (.var 2) (.int 907)) (.int 16831)) (.var 1)))]) (.int 2147483587))), (.ret (.bin .mod (.bi .int [(.bin .mul (.var 2) (.bin .add (.bin .fdiv (.var 2) (.int 1201)) (.int 30011)))]) (.int 2147483563)))]
def b_law_source : List St := [(.ift (.cmp .lt (.var 1) (.bi .len [(.var 0)])) [(.ret (.lst [(.idx (.var 0) (.var 1)), (.idx (.var 0) (.var 1)), (.int 0)]))] []), (.asg (.nm 2) (.call 38 [(.call 37 [(.var 0), (.int 0)]), (.bin .add (.int 1000) (.var 1))])), (.ret (.lst [(.var 2), (.var 2), (.int 0)]))]
def b_law_next : List St := [(.ift (.cmp .ge (.idx (.var 0) (.int 0)) (.bin .pow (.int 10) (.int 18))) [(.asg (.nm 2) (.bin .mod (.bi .int [(.idx (.var 0) (.int 0))]) (.var 1))), (.asg (.sub (.var 0) (.int 0)) (.bin .fdiv (.idx (.var 0) (.int 0)) (.var 1))), (.ret (.var 2))] []), (.asg (.sub (.var 0) (.int 2)) (.bin .add (.idx (.var 0) (.int 2)) (.int 1))), (.ret (.bin .mod (.bi .int [(.call 38 [(.idx (.var 0) (.int 1)), (.idx (.var 0) (.int 2))])]) (.var 1)))]
def b_law_one : List St := [(.ret (.idx (.var 1) (.call 40 [(.var 0), (.bi .len [(.var 1)])])))]
def b_law_divisor : List St := [(.whl (.cmp .gt (.var 1) (.int 0)) [(.par 0 1 (.var 1) (.bin .mod (.bi .int [(.var 0)]) (.var 1)))] (fun τ _ => fuelAt τ 1)), (.ret (.var 0))]
def b_law_ratio : List St := [(.ift (.cmp .lt (.var 1) (.int 0)) [(.par 0 1 (.bin .sub (.int 0) (.var 0)) (.bin .sub (.int 0) (.var 1)))] []), (.asg (.nm 2) (.call 42 [(.bi .abs [(.var 0)]), (.var 1)])), (.ret (.tup [(.bin .fdiv (.var 0) (.var 2)), (.bin .fdiv (.var 1) (.var 2))]))]
def b_law_plus : List St := [(.ret (.call 43 [(.bin .add (.bin .mul (.idx (.var 0) (.int 0)) (.idx (.var 1) (.int 1))) (.bin .mul (.idx (.var 1) (.int 0)) (.idx (.var 0) (.int 1)))), (.bin .mul (.idx (.var 0) (.int 1)) (.idx (.var 1) (.int 1)))]))]
def b_law_minus : List St := [(.ret (.call 43 [(.bin .sub (.bin .mul (.idx (.var 0) (.int 0)) (.idx (.var 1) (.int 1))) (.bin .mul (.idx (.var 1) (.int 0)) (.idx (.var 0) (.int 1)))), (.bin .mul (.idx (.var 0) (.int 1)) (.idx (.var 1) (.int 1)))]))]
def b_law_times : List St := [(.ret (.call 43 [(.bin .mul (.idx (.var 0) (.int 0)) (.idx (.var 1) (.int 0))), (.bin .mul (.idx (.var 0) (.int 1)) (.idx (.var 1) (.int 1)))]))]
def b_law_over : List St := [(.ret (.call 43 [(.bin .mul (.idx (.var 0) (.int 0)) (.idx (.var 1) (.int 1))), (.bin .mul (.idx (.var 0) (.int 1)) (.idx (.var 1) (.int 0)))]))]
def b_law_less : List St := [(.ret (.cmp .lt (.bin .mul (.idx (.var 0) (.int 0)) (.idx (.var 1) (.int 1))) (.bin .mul (.idx (.var 1) (.int 0)) (.idx (.var 0) (.int 1)))))]
def b_law_part : List St := [(.asg (.nm 1) (.call 40 [(.var 0), (.int 6)])), (.ift (.cmp .eq (.var 1) (.int 0)) [(.ret (.tup [(.int 0), (.int 1)]))] []), (.ift (.cmp .lt (.var 1) (.int 4)) [(.ret (.tup [(.bin .add (.int 1) (.call 40 [(.var 0), (.int 12)])), (.int 1)]))] []), (.ift (.cmp .eq (.var 1) (.int 4)) [(.ret (.call 43 [(.bin .add (.int 1) (.call 40 [(.var 0), (.int 20)])), (.bin .add (.int 1) (.call 40 [(.var 0), (.int 6)]))]))] []), (.ret (.call 43 [(.bin .add (.int 1) (.call 40 [(.var 0), (.bin .pow (.int 10) (.int 9))])), (.bin .add (.int 1) (.call 40 [(.var 0), (.int 1000)]))]))]
def b_law_any_part : List St := [(.asg (.nm 1) (.call 49 [(.var 0)])), (.ret (.ife (.cmp .eq (.call 40 [(.var 0), (.int 3)]) (.int 0)) (.tup [(.bin .sub (.int 0) (.idx (.var 1) (.int 0))), (.idx (.var 1) (.int 1))]) (.var 1)))]
def b_law_curve : List St := [(.asg (.nm 1) (.call 40 [(.var 0), (.int 6)])), (.ift (.cmp .lt (.var 1) (.int 2)) [(.ret (.tup [(.str "linear"), (.tup [(.tup [(.tup [(.int 0), (.int 1)]), (.tup [(.int 0), (.int 1)])]), (.tup [(.tup [(.int 1), (.int 1)]), (.tup [(.int 1), (.int 1)])])])]))] []), (.ift (.cmp .eq (.var 1) (.int 2)) [(.asg (.nm 2) (.lst [])), (.for (.nm 3) (.rng1 (.bin .add (.int 1) (.call 40 [(.var 0), (.int 5)]))) [(.asg (.nm 5) (.idx (.lst [.non, .non, (.call 43 [(.call 40 [(.var 0), (.int 9)]), (.int 8)]), (.call 50 [(.var 0)])]) (.call 40 [(.var 0), (.int 4)]))), (.expr (.app (.var 2) (.tup [(.call 43 [(.bin .sub (.call 40 [(.var 0), (.int 13)]) (.int 2)), (.int 8)]), (.var 5)])))]), (.ret (.tup [(.str "linear"), (.bi .tuple [(.var 2)])]))] []), (.ift (.cmp .lt (.var 1) (.int 5)) [(.asg (.nm 4) (.call 41 [(.var 0), (.tup [(.str "start"), (.str "end"), (.str "none"), (.str "both")])])), (.ret (.tup [(.str "steps"), (.bin .add (.bin .add (.int 1) (.bi .int [(.cmp .eq (.var 4) (.str "none"))])) (.call 40 [(.var 0), (.int 5)])), (.var 4)]))] []), (.ret (.tup [(.str "cubic"), (.call 43 [(.bin .sub (.call 40 [(.var 0), (.int 13)]) (.int 4)), (.int 4)]), (.call 43 [(.bin .sub (.call 40 [(.var 0), (.int 13)]) (.int 4)), (.int 4)])]))]
def b_law_timing : List St := [(.asg (.nm 1) (.idx (.lst [(.tup [(.int 0), (.int 1)]), (.tup [(.int 0), (.int 1)]), (.call 50 [(.var 0)])]) (.call 40 [(.var 0), (.int 3)]))), (.asg (.nm 2) (.idx (.lst [(.tup [(.int 0), (.int 1)]), (.tup [(.int 0), (.int 1)]), (.call 50 [(.var 0)])]) (.call 40 [(.var 0), (.int 3)]))), (.asg (.nm 3) (.call 41 [(.var 0), (.tup [(.str "none"), (.str "forwards"), (.str "backwards"), (.str "both")])])), (.asg (.nm 4) (.idx (.lst [(.tup [(.int 0), (.int 1)]), (.tup [(.int 0), (.int 1)]), (.call 43 [(.call 40 [(.var 0), (.int 9)]), (.int 4)])]) (.call 40 [(.var 0), (.int 3)]))), (.asg (.nm 5) (.idx (.lst [(.tup [(.int 1), (.int 1)]), (.tup [(.int 1), (.int 1)]), (.tup [(.int 3), (.int 1)]), (.tup [(.int 0), (.int 1)]), (.call 43 [(.call 40 [(.var 0), (.int 15)]), (.int 4)]), (.str "endless")]) (.call 40 [(.var 0), (.int 6)]))), (.asg (.nm 6) (.lst [.non, (.tup [(.int 0), (.int 1)]), (.str "endless"), (.tup [(.int 10), (.int 1)]), (.tup [(.int 4), (.int 1)]), (.tup [(.int 10), (.int 1)]), (.call 49 [(.var 0)]), (.tup [(.int 1), (.int 1)])])), (.asg (.nm 7) (.call 41 [(.var 0), (.var 6)])), (.asg (.nm 8) (.call 41 [(.var 0), (.tup [(.str "normal"), (.str "normal"), (.str "reverse"), (.str "alternate"), (.str "alternate reverse")])])), (.ret (.tup [(.var 1), (.var 2), (.var 3), (.var 4), (.var 5), (.var 7), (.var 8), (.call 51 [(.var 0)])]))]
def b_law_added : List St := [(.ret (.ife (.cmp .isin (.str "endless") (.tup [(.var 0), (.var 1)])) (.str "endless") (.call 44 [(.var 0), (.var 1)])))]
def b_law_product : List St := [(.ift (.cmp .isin (.tup [(.int 0), (.int 1)]) (.tup [(.var 0), (.var 1)])) [(.ret (.tup [(.int 0), (.int 1)]))] []), (.ret (.ife (.cmp .isin (.str "endless") (.tup [(.var 0), (.var 1)])) (.str "endless") (.call 46 [(.var 0), (.var 1)])))]
def b_law_is_less : List St := [(.ift (.cmp .eq (.var 0) (.str "endless")) [(.ret (.bl false))] []), (.ret (.orE [(.cmp .eq (.var 1) (.str "endless")), (.call 48 [(.var 0), (.var 1)])]))]
def b_law_most : List St := [(.ret (.ife (.call 55 [(.var 0), (.var 1)]) (.var 1) (.var 0)))]
def b_law_least : List St := [(.ret (.ife (.call 55 [(.var 0), (.var 1)]) (.var 0) (.var 1)))]
def b_law_ends : List St := [(.asg (.tp [(.nm 3), (.nm 4), (.nm 5), (.nm 6), (.nm 7), (.nm 8), (.nm 9), (.nm 10)]) (.var 0)), (.asg (.nm 1) (.call 54 [(.ife (.isN (.var 8)) (.tup [(.int 0), (.int 1)]) (.var 8)), (.var 7)])), (.asg (.nm 2) (.call 56 [(.tup [(.int 0), (.int 1)]), (.call 53 [(.var 4), (.call 53 [(.var 3), (.var 1)])])])), (.par 11 12 (.call 57 [(.var 3), (.var 2)]) (.call 57 [(.call 53 [(.var 3), (.var 1)]), (.var 2)])), (.ret (.tup [(.call 56 [(.tup [(.int 0), (.int 1)]), (.var 11)]), (.call 56 [(.tup [(.int 0), (.int 1)]), (.var 12)]), (.var 2), (.var 1)]))]
def b_law_phase : List St := [(.ift (.isN (.var 1)) [(.ret (.str "idle"))] []), (.asg (.tp [(.nm 3), (.nm 4), (.nm 5), (.nm 6)]) (.call 58 [(.var 0)])), (.ift (.orE [(.call 55 [(.var 1), (.var 3)]), (.andE [(.cmp .eq (.var 1) (.var 3)), (.cmp .lt (.var 2) (.int 0))])]) [(.ret (.str "before"))] []), (.ret (.ife (.orE [(.call 55 [(.var 4), (.var 1)]), (.andE [(.cmp .eq (.var 1) (.var 4)), (.cmp .gt (.var 2) (.int 0))])]) (.str "after") (.str "active")))]
def b_law_overall : List St := [(.ift (.cmp .isin (.idx (.var 0) (.int 5)) (.tup [.non, (.tup [(.int 0), (.int 1)])])) [(.ret (.ife (.cmp .eq (.var 1) (.str "before")) (.idx (.var 0) (.int 3)) (.call 53 [(.idx (.var 0) (.int 3)), (.idx (.var 0) (.int 4))])))] []), (.ift (.cmp .eq (.idx (.var 0) (.int 5)) (.str "endless")) [(.ret (.idx (.var 0) (.int 3)))] []), (.ret (.call 44 [(.idx (.var 0) (.int 3)), (.call 47 [(.var 2), (.idx (.var 0) (.int 5))])]))]
def b_law_simple : List St := [(.asg (.nm 4) (.ife (.cmp .eq (.var 3) (.str "endless")) (.idx (.var 0) (.int 3)) (.var 3))), (.asg (.nm 4) (.call 43 [(.bin .mod (.bi .int [(.idx (.var 4) (.int 0))]) (.idx (.var 4) (.int 1))), (.idx (.var 4) (.int 1))])), (.asg (.nm 5) (.andE [(.cmp .isin (.var 1) (.tup [(.str "active"), (.str "after")])), (.cmp .eq (.var 2) (.idx (.call 58 [(.var 0)]) (.int 3))), (.cmp .ne (.idx (.var 0) (.int 4)) (.tup [(.int 0), (.int 1)]))])), (.ret (.ife (.andE [(.cmp .eq (.var 4) (.tup [(.int 0), (.int 1)])), (.var 5)]) (.tup [(.int 1), (.int 1)]) (.var 4)))]
def b_law_moments : List St := [(.asg (.tp [(.nm 4), (.nm 5), (.nm 6), (.nm 7)]) (.call 58 [(.var 1)])), (.asg (.nm 2) (.lc (.var 9) (.nm 9) (.ex (.tup [(.var 4), (.var 5), (.var 6), (.idx (.var 1) (.int 0)), (.call 53 [(.idx (.var 1) (.int 0)), (.var 7)])])) [(.cmp .ne (.var 9) (.str "endless"))])), (.ift (.cmp .notin (.idx (.var 1) (.int 5)) (.tup [.non, (.str "endless")])) [(.for (.nm 8) (.rng1 (.int 3)) [(.asg (.nm 10) (.call 45 [(.tup [(.call 40 [(.var 0), (.int 5)]), (.int 1)]), (.idx (.var 1) (.int 3))])), (.expr (.app (.var 2) (.call 44 [(.idx (.var 1) (.int 0)), (.call 46 [(.var 10), (.idx (.var 1) (.int 5))])])))])] []), (.asg (.nm 3) (.call 43 [(.int 1), (.bin .add (.int 2) (.call 40 [(.var 0), (.int 99)]))])), (.asg (.nm 2) (.bin .add (.bin .add (.var 2) (.lc (.call 44 [(.var 9), (.var 3)]) (.nm 9) (.ex (.var 2)) [])) (.lc (.call 45 [(.var 9), (.var 3)]) (.nm 9) (.ex (.var 2)) []))), (.ret (.bin .add (.bin .add (.var 2) (.lst [(.tup [(.int 0), (.int 1)])])) (.lc (.call 50 [(.var 0)]) (.nm 8) (.rng1 (.int 4)) [])))]
def b_law_lengthy : List St := [(.asg (.nm 1) (.call 52 [(.var 0)])), (.asg (.nm 2) (.call 41 [(.var 0), (.tup [.non, (.tup [(.int 0), (.int 1)]), (.str "endless"), (.tup [(.int 10), (.int 1)]), (.tup [(.int 1), (.int 3)]), (.tup [(.int 7), (.int 2)])])])), (.asg (.nm 3) (.call 41 [(.var 0), (.tup [(.tup [(.int 0), (.int 1)]), (.tup [(.int 1), (.int 1)]), (.tup [(.int 3), (.int 1)]), (.tup [(.int 5), (.int 2)]), (.tup [(.int 1), (.int 4)]), (.str "endless")])])), (.asg (.nm 4) (.call 41 [(.var 0), (.tup [(.tup [(.int 0), (.int 1)]), (.tup [(.int 0), (.int 1)]), (.tup [(.int 1), (.int 1)]), (.tup [(.int 1), (.int 2)]), (.tup [(.int 11), (.int 4)]), (.tup [(.int 2), (.int 1)])])])), (.ret (.bin .add (.bin .add (.slc (.var 1) .absent (.int 2)) (.tup [(.str "both"), (.var 4), (.var 3), (.var 2)])) (.slc (.var 1) (.int 6) .absent)))]
def b_law_shares_right : List St := [(.asg (.nm 3) (.call 36 [(.var 0), (.var 1), (.var 2)])), (.par 6 7 (.call 59 [(.var 0), (.var 1), (.var 2)]) (.idx (.var 3) (.int 1))), (.asg (.nm 4) (.call 60 [(.var 0), (.var 6), (.var 7)])), (.asg (.nm 5) (.call 61 [(.var 0), (.var 6), (.var 7), (.var 4)])), (.ift (.orE [(.cmp .ne (.slc (.var 3) (.int 2) (.int 4)) (.tup [(.var 4), (.var 5)])), (.cmp .ne (.bi .repr [(.slc (.var 3) (.int 2) (.int 4))]) (.bi .repr [(.tup [(.var 4), (.var 5)])]))]) [(.ret (.bl false))] []), (.ift (.orE [(.call 48 [(.var 5), (.tup [(.int 0), (.int 1)])]), (.call 48 [(.tup [(.int 1), (.int 1)]), (.var 5)])]) [(.ret (.bl false))] []), (.ift (.cmp .eq (.var 5) (.tup [(.int 1), (.int 1)])) [(.ret (.andE [(.cmp .ne (.var 6) (.str "before")), (.cmp .eq (.var 7) (.idx (.call 58 [(.var 0)]) (.int 3))), (.cmp .ne (.idx (.var 0) (.int 4)) (.tup [(.int 0), (.int 1)]))]))] []), (.ret (.orE [(.cmp .eq (.var 4) (.str "endless")), (.cmp .eq (.idx (.call 45 [(.var 4), (.var 5)]) (.int 1)) (.int 1))]))]
def b_law_right : List St := [(.asg (.nm 1) (.call 63 [(.var 0)])), (.for (.nm 2) (.ex (.call 62 [(.var 0), (.var 1)])) [(.for (.nm 3) (.ex (.tup [(.int 1), (.neg (.int 1))])) [(.ift (.notE (.call 64 [(.var 1), (.var 2), (.var 3)])) [(.ret (.bl false))] [])])]), (.ret (.bl true))]
def b_law_by_hand : List St := [(.asg (.nm 0) (.tup [(.str "linear"), (.tup [(.tup [(.tup [(.int 0), (.int 1)]), (.tup [(.int 0), (.int 1)])]), (.tup [(.tup [(.int 1), (.int 1)]), (.tup [(.int 1), (.int 1)])])])])), (.asg (.tp [(.nm 3), (.nm 4)]) (.tup [(.tup [(.str "normal"), (.var 0)]), (.tup [(.tup [(.int 0), (.int 1)]), (.tup [(.int 0), (.int 1)]), (.str "both"), (.tup [(.int 1), (.int 2)])])])), (.asg (.nm 1) (.lc (.slc (.call 36 [(.bin .add (.bin .add (.var 4) (.tup [(.tup [(.int 5), (.int 2)]), (.tup [(.int 0), (.int 1)])])) (.var 3)), (.tup [(.var 5), (.int 1)]), (.int 1)]) (.int 2) (.int 4)) (.nm 5) (.ex (.tup [(.neg (.int 1)), (.int 0), (.int 9)])) [])), (.ift (.cmp .ne (.var 1) (.lst [(.tup [(.tup [(.int 1), (.int 2)]), (.tup [(.int 1), (.int 2)])]), (.tup [(.tup [(.int 3), (.int 1)]), (.tup [(.int 1), (.int 1)])]), (.tup [(.tup [(.int 3), (.int 1)]), (.tup [(.int 1), (.int 1)])])])) [(.ret (.bl false))] []), (.asg (.nm 1) (.lc (.slc (.call 36 [(.bin .add (.bin .add (.var 4) (.tup [(.str "endless"), (.tup [(.int 0), (.int 1)])])) (.var 3)), (.tup [(.int 4), (.int 1)]), (.var 6)]) (.int 2) (.int 5)) (.nm 6) (.ex (.tup [(.int 1), (.neg (.int 1))])) [])), (.ift (.cmp .ne (.var 1) (.bin .mul (.lst [(.tup [(.str "endless"), (.tup [(.int 1), (.int 2)]), (.str "endless")])]) (.int 2))) [(.ret (.bl false))] []), (.asg (.nm 1) (.lc (.slc (.call 36 [(.bin .add (.bin .add (.var 4) (.tup [(.tup [(.int 1), (.int 1)]), (.str "endless")])) (.var 3)), (.tup [(.var 5), (.int 1)]), (.int 1)]) (.int 1) (.int 5)) (.nm 5) (.ex (.tup [(.int 0), (.int 1000)])) [])), (.ift (.cmp .ne (.var 1) (.lst [(.tup [(.tup [(.int 0), (.int 1)]), (.tup [(.int 1), (.int 2)]), (.tup [(.int 1), (.int 2)]), (.int 0)]), (.tup [(.tup [(.int 1000), (.int 1)]), (.tup [(.int 1), (.int 2)]), (.tup [(.int 1), (.int 2)]), (.int 0)])])) [(.ret (.bl false))] []), (.asg (.nm 2) (.tup [(.tup [(.int 0), (.int 1)]), (.tup [(.int 0), (.int 1)]), (.str "both"), (.tup [(.int 2), (.int 1)]), (.tup [(.int 0), (.int 1)]), (.tup [(.int 5), (.int 1)])])), (.ret (.cmp .eq (.call 36 [(.bin .add (.var 2) (.var 3)), (.tup [(.int 3), (.int 1)]), (.int 1)]) (.tup [(.str "after"), (.tup [(.int 0), (.int 1)]), (.tup [(.int 2), (.int 1)]), (.tup [(.int 0), (.int 1)]), (.int 2), (.tup [(.int 0), (.int 1)]), (.tup [(.int 0), (.int 1)])])))]
def b_law : List St := [(.for (.nm 1) (.rng1 (.bi .max2 [(.int 1), (.bi .min2 [(.int 5), (.bi .len [(.var 0)])])])) [(.asg (.nm 2) (.call 39 [(.var 0), (.var 1)])), (.for (.nm 3) (.rng1 (.int 4)) [(.ift (.notE (.call 65 [(.var 2)])) [(.ret (.bl false))] [])])]), (.ret (.call 66 []))]
def df_all : List Df := [⟨1, 1, b_is_whole⟩, ⟨2, 2, b_divisor⟩, ⟨1, 1, b_is_fraction⟩, ⟨1, 1, b_is_endless⟩, ⟨2, 3, b_ratio⟩, ⟨2, 2, b_plus⟩, ⟨2, 2, b_minus⟩, ⟨2, 2, b_product⟩, ⟨2, 2, b_quotient⟩, ⟨2, 2, b_less⟩, ⟨2, 2, b_lesser⟩, ⟨2, 2, b_greater⟩, ⟨1, 1, b_floor_of⟩, ⟨1, 1, b_part_of⟩, ⟨1, 1, b_as_fraction⟩, ⟨1, 1, b_is_point⟩, ⟨1, 2, b_is_curve⟩, ⟨1, 6, b_spread⟩, ⟨1, 6, b_settled_points⟩, ⟨2, 7, b_linear_value⟩, ⟨3, 6, b_cubic_value⟩, ⟨4, 7, b_steps_value⟩, ⟨3, 3, b_led⟩, ⟨1, 1, b_is_amount⟩, ⟨1, 9, b_is_timing⟩, ⟨1, 1, b_length_of⟩, ⟨1, 1, b_active_length⟩, ⟨1, 5, b_all_edges⟩, ⟨3, 6, b_phase_of⟩, ⟨4, 4, b_active_time⟩, ⟨3, 4, b_overall_of⟩, ⟨4, 5, b_simple_of⟩, ⟨4, 4, b_iteration_of⟩, ⟨2, 2, b_direction_of⟩, ⟨3, 11, b_told_in⟩, ⟨1, 1, b_check_timing⟩, ⟨3, 3, b_told_at⟩, ⟨2, 2, b_law_cell_at⟩, ⟨2, 3, b_law_mixed⟩, ⟨2, 3, b_law_source⟩, ⟨2, 3, b_law_next⟩, ⟨2, 2, b_law_one⟩, ⟨2, 2, b_law_divisor⟩, ⟨2, 3, b_law_ratio⟩, ⟨2, 2, b_law_plus⟩, ⟨2, 2, b_law_minus⟩, ⟨2, 2, b_law_times⟩, ⟨2, 2, b_law_over⟩, ⟨2, 2, b_law_less⟩, ⟨1, 2, b_law_part⟩, ⟨1, 2, b_law_any_part⟩, ⟨1, 6, b_law_curve⟩, ⟨1, 9, b_law_timing⟩, ⟨2, 2, b_law_added⟩, ⟨2, 2, b_law_product⟩, ⟨2, 2, b_law_is_less⟩, ⟨2, 2, b_law_most⟩, ⟨2, 2, b_law_least⟩, ⟨1, 13, b_law_ends⟩, ⟨3, 7, b_law_phase⟩, ⟨3, 3, b_law_overall⟩, ⟨4, 6, b_law_simple⟩, ⟨2, 11, b_law_moments⟩, ⟨1, 5, b_law_lengthy⟩, ⟨3, 8, b_law_shares_right⟩, ⟨1, 4, b_law_right⟩, ⟨0, 7, b_law_by_hand⟩, ⟨1, 4, b_law⟩]
def cs_all : List (Str × D) := [("ENDLESS", (.str "endless")), ("ZERO", (.tup [(.int 0), (.int 1)])), ("ONE", (.tup [(.int 1), (.int 1)])), ("WHERES", (.tup [(.str "start"), (.str "end"), (.str "none"), (.str "both")])), ("FILLS", (.tup [(.str "none"), (.str "forwards"), (.str "backwards"), (.str "both")])), ("WAYS", (.tup [(.str "normal"), (.str "reverse"), (.str "alternate"), (.str "alternate reverse")]))]
def conD (k : Nat) : D := (cs_all.map (·.2)).getD k .non
abbrev c_ENDLESS : Nat := 0
abbrev c_ZERO : Nat := 1
abbrev c_ONE : Nat := 2
abbrev c_WHERES : Nat := 3
abbrev c_FILLS : Nat := 4
abbrev c_WAYS : Nat := 5
def dfsD (j : Nat) : Option Df := df_all[j]?
def patD : Nat → Nat → List D → List D
  | _, _, xs => xs
abbrev runD (k : Nat) : Fn := run conD patD dfsD k
abbrev i_is_whole : Nat := 0
abbrev i_divisor : Nat := 1
abbrev i_is_fraction : Nat := 2
abbrev i_is_endless : Nat := 3
abbrev i_ratio : Nat := 4
abbrev i_plus : Nat := 5
abbrev i_minus : Nat := 6
abbrev i_product : Nat := 7
abbrev i_quotient : Nat := 8
abbrev i_less : Nat := 9
abbrev i_lesser : Nat := 10
abbrev i_greater : Nat := 11
abbrev i_floor_of : Nat := 12
abbrev i_part_of : Nat := 13
abbrev i_as_fraction : Nat := 14
abbrev i_is_point : Nat := 15
abbrev i_is_curve : Nat := 16
abbrev i_spread : Nat := 17
abbrev i_settled_points : Nat := 18
abbrev i_linear_value : Nat := 19
abbrev i_cubic_value : Nat := 20
abbrev i_steps_value : Nat := 21
abbrev i_led : Nat := 22
abbrev i_is_amount : Nat := 23
abbrev i_is_timing : Nat := 24
abbrev i_length_of : Nat := 25
abbrev i_active_length : Nat := 26
abbrev i_all_edges : Nat := 27
abbrev i_phase_of : Nat := 28
abbrev i_active_time : Nat := 29
abbrev i_overall_of : Nat := 30
abbrev i_simple_of : Nat := 31
abbrev i_iteration_of : Nat := 32
abbrev i_direction_of : Nat := 33
abbrev i_told_in : Nat := 34
abbrev i_check_timing : Nat := 35
abbrev i_told_at : Nat := 36
abbrev i_law_cell_at : Nat := 37
abbrev i_law_mixed : Nat := 38
abbrev i_law_source : Nat := 39
abbrev i_law_next : Nat := 40
abbrev i_law_one : Nat := 41
abbrev i_law_divisor : Nat := 42
abbrev i_law_ratio : Nat := 43
abbrev i_law_plus : Nat := 44
abbrev i_law_minus : Nat := 45
abbrev i_law_times : Nat := 46
abbrev i_law_over : Nat := 47
abbrev i_law_less : Nat := 48
abbrev i_law_part : Nat := 49
abbrev i_law_any_part : Nat := 50
abbrev i_law_curve : Nat := 51
abbrev i_law_timing : Nat := 52
abbrev i_law_added : Nat := 53
abbrev i_law_product : Nat := 54
abbrev i_law_is_less : Nat := 55
abbrev i_law_most : Nat := 56
abbrev i_law_least : Nat := 57
abbrev i_law_ends : Nat := 58
abbrev i_law_phase : Nat := 59
abbrev i_law_overall : Nat := 60
abbrev i_law_simple : Nat := 61
abbrev i_law_moments : Nat := 62
abbrev i_law_lengthy : Nat := 63
abbrev i_law_shares_right : Nat := 64
abbrev i_law_right : Nat := 65
abbrev i_law_by_hand : Nat := 66
abbrev i_law : Nat := 67
abbrev GmD (k : Nat) : Gm := ⟨conD, runD k, patD⟩
theorem run_is_whole (k : Nat) (xs : List D) (h : MH) (hl : xs.length = 1) : runD (k + 1) 0 xs h = outD (exes (GmD k) b_is_whole (startD 1 xs) h) := by
  show (if xs.length = 1 then _ else none) = _
  rw [if_pos hl]
theorem run_divisor (k : Nat) (xs : List D) (h : MH) (hl : xs.length = 2) : runD (k + 1) 1 xs h = outD (exes (GmD k) b_divisor (startD 2 xs) h) := by
  show (if xs.length = 2 then _ else none) = _
  rw [if_pos hl]
theorem run_is_fraction (k : Nat) (xs : List D) (h : MH) (hl : xs.length = 1) : runD (k + 1) 2 xs h = outD (exes (GmD k) b_is_fraction (startD 1 xs) h) := by
  show (if xs.length = 1 then _ else none) = _
  rw [if_pos hl]
theorem run_is_endless (k : Nat) (xs : List D) (h : MH) (hl : xs.length = 1) : runD (k + 1) 3 xs h = outD (exes (GmD k) b_is_endless (startD 1 xs) h) := by
  show (if xs.length = 1 then _ else none) = _
  rw [if_pos hl]
theorem run_ratio (k : Nat) (xs : List D) (h : MH) (hl : xs.length = 2) : runD (k + 1) 4 xs h = outD (exes (GmD k) b_ratio (startD 3 xs) h) := by
  show (if xs.length = 2 then _ else none) = _
  rw [if_pos hl]
theorem run_plus (k : Nat) (xs : List D) (h : MH) (hl : xs.length = 2) : runD (k + 1) 5 xs h = outD (exes (GmD k) b_plus (startD 2 xs) h) := by
  show (if xs.length = 2 then _ else none) = _
  rw [if_pos hl]
theorem run_minus (k : Nat) (xs : List D) (h : MH) (hl : xs.length = 2) : runD (k + 1) 6 xs h = outD (exes (GmD k) b_minus (startD 2 xs) h) := by
  show (if xs.length = 2 then _ else none) = _
  rw [if_pos hl]
theorem run_product (k : Nat) (xs : List D) (h : MH) (hl : xs.length = 2) : runD (k + 1) 7 xs h = outD (exes (GmD k) b_product (startD 2 xs) h) := by
  show (if xs.length = 2 then _ else none) = _
  rw [if_pos hl]
theorem run_quotient (k : Nat) (xs : List D) (h : MH) (hl : xs.length = 2) : runD (k + 1) 8 xs h = outD (exes (GmD k) b_quotient (startD 2 xs) h) := by
  show (if xs.length = 2 then _ else none) = _
  rw [if_pos hl]
theorem run_less (k : Nat) (xs : List D) (h : MH) (hl : xs.length = 2) : runD (k + 1) 9 xs h = outD (exes (GmD k) b_less (startD 2 xs) h) := by
  show (if xs.length = 2 then _ else none) = _
  rw [if_pos hl]
theorem run_lesser (k : Nat) (xs : List D) (h : MH) (hl : xs.length = 2) : runD (k + 1) 10 xs h = outD (exes (GmD k) b_lesser (startD 2 xs) h) := by
  show (if xs.length = 2 then _ else none) = _
  rw [if_pos hl]
theorem run_greater (k : Nat) (xs : List D) (h : MH) (hl : xs.length = 2) : runD (k + 1) 11 xs h = outD (exes (GmD k) b_greater (startD 2 xs) h) := by
  show (if xs.length = 2 then _ else none) = _
  rw [if_pos hl]
theorem run_floor_of (k : Nat) (xs : List D) (h : MH) (hl : xs.length = 1) : runD (k + 1) 12 xs h = outD (exes (GmD k) b_floor_of (startD 1 xs) h) := by
  show (if xs.length = 1 then _ else none) = _
  rw [if_pos hl]
theorem run_part_of (k : Nat) (xs : List D) (h : MH) (hl : xs.length = 1) : runD (k + 1) 13 xs h = outD (exes (GmD k) b_part_of (startD 1 xs) h) := by
  show (if xs.length = 1 then _ else none) = _
  rw [if_pos hl]
theorem run_as_fraction (k : Nat) (xs : List D) (h : MH) (hl : xs.length = 1) : runD (k + 1) 14 xs h = outD (exes (GmD k) b_as_fraction (startD 1 xs) h) := by
  show (if xs.length = 1 then _ else none) = _
  rw [if_pos hl]
theorem run_is_point (k : Nat) (xs : List D) (h : MH) (hl : xs.length = 1) : runD (k + 1) 15 xs h = outD (exes (GmD k) b_is_point (startD 1 xs) h) := by
  show (if xs.length = 1 then _ else none) = _
  rw [if_pos hl]
theorem run_is_curve (k : Nat) (xs : List D) (h : MH) (hl : xs.length = 1) : runD (k + 1) 16 xs h = outD (exes (GmD k) b_is_curve (startD 2 xs) h) := by
  show (if xs.length = 1 then _ else none) = _
  rw [if_pos hl]
theorem run_spread (k : Nat) (xs : List D) (h : MH) (hl : xs.length = 1) : runD (k + 1) 17 xs h = outD (exes (GmD k) b_spread (startD 6 xs) h) := by
  show (if xs.length = 1 then _ else none) = _
  rw [if_pos hl]
theorem run_settled_points (k : Nat) (xs : List D) (h : MH) (hl : xs.length = 1) : runD (k + 1) 18 xs h = outD (exes (GmD k) b_settled_points (startD 6 xs) h) := by
  show (if xs.length = 1 then _ else none) = _
  rw [if_pos hl]
theorem run_linear_value (k : Nat) (xs : List D) (h : MH) (hl : xs.length = 2) : runD (k + 1) 19 xs h = outD (exes (GmD k) b_linear_value (startD 7 xs) h) := by
  show (if xs.length = 2 then _ else none) = _
  rw [if_pos hl]
theorem run_cubic_value (k : Nat) (xs : List D) (h : MH) (hl : xs.length = 3) : runD (k + 1) 20 xs h = outD (exes (GmD k) b_cubic_value (startD 6 xs) h) := by
  show (if xs.length = 3 then _ else none) = _
  rw [if_pos hl]
theorem run_steps_value (k : Nat) (xs : List D) (h : MH) (hl : xs.length = 4) : runD (k + 1) 21 xs h = outD (exes (GmD k) b_steps_value (startD 7 xs) h) := by
  show (if xs.length = 4 then _ else none) = _
  rw [if_pos hl]
theorem run_led (k : Nat) (xs : List D) (h : MH) (hl : xs.length = 3) : runD (k + 1) 22 xs h = outD (exes (GmD k) b_led (startD 3 xs) h) := by
  show (if xs.length = 3 then _ else none) = _
  rw [if_pos hl]
theorem run_is_amount (k : Nat) (xs : List D) (h : MH) (hl : xs.length = 1) : runD (k + 1) 23 xs h = outD (exes (GmD k) b_is_amount (startD 1 xs) h) := by
  show (if xs.length = 1 then _ else none) = _
  rw [if_pos hl]
theorem run_is_timing (k : Nat) (xs : List D) (h : MH) (hl : xs.length = 1) : runD (k + 1) 24 xs h = outD (exes (GmD k) b_is_timing (startD 9 xs) h) := by
  show (if xs.length = 1 then _ else none) = _
  rw [if_pos hl]
theorem run_length_of (k : Nat) (xs : List D) (h : MH) (hl : xs.length = 1) : runD (k + 1) 25 xs h = outD (exes (GmD k) b_length_of (startD 1 xs) h) := by
  show (if xs.length = 1 then _ else none) = _
  rw [if_pos hl]
theorem run_active_length (k : Nat) (xs : List D) (h : MH) (hl : xs.length = 1) : runD (k + 1) 26 xs h = outD (exes (GmD k) b_active_length (startD 1 xs) h) := by
  show (if xs.length = 1 then _ else none) = _
  rw [if_pos hl]
theorem run_all_edges (k : Nat) (xs : List D) (h : MH) (hl : xs.length = 1) : runD (k + 1) 27 xs h = outD (exes (GmD k) b_all_edges (startD 5 xs) h) := by
  show (if xs.length = 1 then _ else none) = _
  rw [if_pos hl]
theorem run_phase_of (k : Nat) (xs : List D) (h : MH) (hl : xs.length = 3) : runD (k + 1) 28 xs h = outD (exes (GmD k) b_phase_of (startD 6 xs) h) := by
  show (if xs.length = 3 then _ else none) = _
  rw [if_pos hl]
theorem run_active_time (k : Nat) (xs : List D) (h : MH) (hl : xs.length = 4) : runD (k + 1) 29 xs h = outD (exes (GmD k) b_active_time (startD 4 xs) h) := by
  show (if xs.length = 4 then _ else none) = _
  rw [if_pos hl]
theorem run_overall_of (k : Nat) (xs : List D) (h : MH) (hl : xs.length = 3) : runD (k + 1) 30 xs h = outD (exes (GmD k) b_overall_of (startD 4 xs) h) := by
  show (if xs.length = 3 then _ else none) = _
  rw [if_pos hl]
theorem run_simple_of (k : Nat) (xs : List D) (h : MH) (hl : xs.length = 4) : runD (k + 1) 31 xs h = outD (exes (GmD k) b_simple_of (startD 5 xs) h) := by
  show (if xs.length = 4 then _ else none) = _
  rw [if_pos hl]
theorem run_iteration_of (k : Nat) (xs : List D) (h : MH) (hl : xs.length = 4) : runD (k + 1) 32 xs h = outD (exes (GmD k) b_iteration_of (startD 4 xs) h) := by
  show (if xs.length = 4 then _ else none) = _
  rw [if_pos hl]
theorem run_direction_of (k : Nat) (xs : List D) (h : MH) (hl : xs.length = 2) : runD (k + 1) 33 xs h = outD (exes (GmD k) b_direction_of (startD 2 xs) h) := by
  show (if xs.length = 2 then _ else none) = _
  rw [if_pos hl]
theorem run_told_in (k : Nat) (xs : List D) (h : MH) (hl : xs.length = 3) : runD (k + 1) 34 xs h = outD (exes (GmD k) b_told_in (startD 11 xs) h) := by
  show (if xs.length = 3 then _ else none) = _
  rw [if_pos hl]
theorem run_check_timing (k : Nat) (xs : List D) (h : MH) (hl : xs.length = 1) : runD (k + 1) 35 xs h = outD (exes (GmD k) b_check_timing (startD 1 xs) h) := by
  show (if xs.length = 1 then _ else none) = _
  rw [if_pos hl]
theorem run_told_at (k : Nat) (xs : List D) (h : MH) (hl : xs.length = 3) : runD (k + 1) 36 xs h = outD (exes (GmD k) b_told_at (startD 3 xs) h) := by
  show (if xs.length = 3 then _ else none) = _
  rw [if_pos hl]
theorem run_law_cell_at (k : Nat) (xs : List D) (h : MH) (hl : xs.length = 2) : runD (k + 1) 37 xs h = outD (exes (GmD k) b_law_cell_at (startD 2 xs) h) := by
  show (if xs.length = 2 then _ else none) = _
  rw [if_pos hl]
theorem run_law_mixed (k : Nat) (xs : List D) (h : MH) (hl : xs.length = 2) : runD (k + 1) 38 xs h = outD (exes (GmD k) b_law_mixed (startD 3 xs) h) := by
  show (if xs.length = 2 then _ else none) = _
  rw [if_pos hl]
theorem run_law_source (k : Nat) (xs : List D) (h : MH) (hl : xs.length = 2) : runD (k + 1) 39 xs h = outD (exes (GmD k) b_law_source (startD 3 xs) h) := by
  show (if xs.length = 2 then _ else none) = _
  rw [if_pos hl]
theorem run_law_next (k : Nat) (xs : List D) (h : MH) (hl : xs.length = 2) : runD (k + 1) 40 xs h = outD (exes (GmD k) b_law_next (startD 3 xs) h) := by
  show (if xs.length = 2 then _ else none) = _
  rw [if_pos hl]
theorem run_law_one (k : Nat) (xs : List D) (h : MH) (hl : xs.length = 2) : runD (k + 1) 41 xs h = outD (exes (GmD k) b_law_one (startD 2 xs) h) := by
  show (if xs.length = 2 then _ else none) = _
  rw [if_pos hl]
theorem run_law_divisor (k : Nat) (xs : List D) (h : MH) (hl : xs.length = 2) : runD (k + 1) 42 xs h = outD (exes (GmD k) b_law_divisor (startD 2 xs) h) := by
  show (if xs.length = 2 then _ else none) = _
  rw [if_pos hl]
theorem run_law_ratio (k : Nat) (xs : List D) (h : MH) (hl : xs.length = 2) : runD (k + 1) 43 xs h = outD (exes (GmD k) b_law_ratio (startD 3 xs) h) := by
  show (if xs.length = 2 then _ else none) = _
  rw [if_pos hl]
theorem run_law_plus (k : Nat) (xs : List D) (h : MH) (hl : xs.length = 2) : runD (k + 1) 44 xs h = outD (exes (GmD k) b_law_plus (startD 2 xs) h) := by
  show (if xs.length = 2 then _ else none) = _
  rw [if_pos hl]
theorem run_law_minus (k : Nat) (xs : List D) (h : MH) (hl : xs.length = 2) : runD (k + 1) 45 xs h = outD (exes (GmD k) b_law_minus (startD 2 xs) h) := by
  show (if xs.length = 2 then _ else none) = _
  rw [if_pos hl]
theorem run_law_times (k : Nat) (xs : List D) (h : MH) (hl : xs.length = 2) : runD (k + 1) 46 xs h = outD (exes (GmD k) b_law_times (startD 2 xs) h) := by
  show (if xs.length = 2 then _ else none) = _
  rw [if_pos hl]
theorem run_law_over (k : Nat) (xs : List D) (h : MH) (hl : xs.length = 2) : runD (k + 1) 47 xs h = outD (exes (GmD k) b_law_over (startD 2 xs) h) := by
  show (if xs.length = 2 then _ else none) = _
  rw [if_pos hl]
theorem run_law_less (k : Nat) (xs : List D) (h : MH) (hl : xs.length = 2) : runD (k + 1) 48 xs h = outD (exes (GmD k) b_law_less (startD 2 xs) h) := by
  show (if xs.length = 2 then _ else none) = _
  rw [if_pos hl]
theorem run_law_part (k : Nat) (xs : List D) (h : MH) (hl : xs.length = 1) : runD (k + 1) 49 xs h = outD (exes (GmD k) b_law_part (startD 2 xs) h) := by
  show (if xs.length = 1 then _ else none) = _
  rw [if_pos hl]
theorem run_law_any_part (k : Nat) (xs : List D) (h : MH) (hl : xs.length = 1) : runD (k + 1) 50 xs h = outD (exes (GmD k) b_law_any_part (startD 2 xs) h) := by
  show (if xs.length = 1 then _ else none) = _
  rw [if_pos hl]
theorem run_law_curve (k : Nat) (xs : List D) (h : MH) (hl : xs.length = 1) : runD (k + 1) 51 xs h = outD (exes (GmD k) b_law_curve (startD 6 xs) h) := by
  show (if xs.length = 1 then _ else none) = _
  rw [if_pos hl]
theorem run_law_timing (k : Nat) (xs : List D) (h : MH) (hl : xs.length = 1) : runD (k + 1) 52 xs h = outD (exes (GmD k) b_law_timing (startD 9 xs) h) := by
  show (if xs.length = 1 then _ else none) = _
  rw [if_pos hl]
theorem run_law_added (k : Nat) (xs : List D) (h : MH) (hl : xs.length = 2) : runD (k + 1) 53 xs h = outD (exes (GmD k) b_law_added (startD 2 xs) h) := by
  show (if xs.length = 2 then _ else none) = _
  rw [if_pos hl]
theorem run_law_product (k : Nat) (xs : List D) (h : MH) (hl : xs.length = 2) : runD (k + 1) 54 xs h = outD (exes (GmD k) b_law_product (startD 2 xs) h) := by
  show (if xs.length = 2 then _ else none) = _
  rw [if_pos hl]
theorem run_law_is_less (k : Nat) (xs : List D) (h : MH) (hl : xs.length = 2) : runD (k + 1) 55 xs h = outD (exes (GmD k) b_law_is_less (startD 2 xs) h) := by
  show (if xs.length = 2 then _ else none) = _
  rw [if_pos hl]
theorem run_law_most (k : Nat) (xs : List D) (h : MH) (hl : xs.length = 2) : runD (k + 1) 56 xs h = outD (exes (GmD k) b_law_most (startD 2 xs) h) := by
  show (if xs.length = 2 then _ else none) = _
  rw [if_pos hl]
theorem run_law_least (k : Nat) (xs : List D) (h : MH) (hl : xs.length = 2) : runD (k + 1) 57 xs h = outD (exes (GmD k) b_law_least (startD 2 xs) h) := by
  show (if xs.length = 2 then _ else none) = _
  rw [if_pos hl]
theorem run_law_ends (k : Nat) (xs : List D) (h : MH) (hl : xs.length = 1) : runD (k + 1) 58 xs h = outD (exes (GmD k) b_law_ends (startD 13 xs) h) := by
  show (if xs.length = 1 then _ else none) = _
  rw [if_pos hl]
theorem run_law_phase (k : Nat) (xs : List D) (h : MH) (hl : xs.length = 3) : runD (k + 1) 59 xs h = outD (exes (GmD k) b_law_phase (startD 7 xs) h) := by
  show (if xs.length = 3 then _ else none) = _
  rw [if_pos hl]
theorem run_law_overall (k : Nat) (xs : List D) (h : MH) (hl : xs.length = 3) : runD (k + 1) 60 xs h = outD (exes (GmD k) b_law_overall (startD 3 xs) h) := by
  show (if xs.length = 3 then _ else none) = _
  rw [if_pos hl]
theorem run_law_simple (k : Nat) (xs : List D) (h : MH) (hl : xs.length = 4) : runD (k + 1) 61 xs h = outD (exes (GmD k) b_law_simple (startD 6 xs) h) := by
  show (if xs.length = 4 then _ else none) = _
  rw [if_pos hl]
theorem run_law_moments (k : Nat) (xs : List D) (h : MH) (hl : xs.length = 2) : runD (k + 1) 62 xs h = outD (exes (GmD k) b_law_moments (startD 11 xs) h) := by
  show (if xs.length = 2 then _ else none) = _
  rw [if_pos hl]
theorem run_law_lengthy (k : Nat) (xs : List D) (h : MH) (hl : xs.length = 1) : runD (k + 1) 63 xs h = outD (exes (GmD k) b_law_lengthy (startD 5 xs) h) := by
  show (if xs.length = 1 then _ else none) = _
  rw [if_pos hl]
theorem run_law_shares_right (k : Nat) (xs : List D) (h : MH) (hl : xs.length = 3) : runD (k + 1) 64 xs h = outD (exes (GmD k) b_law_shares_right (startD 8 xs) h) := by
  show (if xs.length = 3 then _ else none) = _
  rw [if_pos hl]
theorem run_law_right (k : Nat) (xs : List D) (h : MH) (hl : xs.length = 1) : runD (k + 1) 65 xs h = outD (exes (GmD k) b_law_right (startD 4 xs) h) := by
  show (if xs.length = 1 then _ else none) = _
  rw [if_pos hl]
theorem run_law_by_hand (k : Nat) (xs : List D) (h : MH) (hl : xs.length = 0) : runD (k + 1) 66 xs h = outD (exes (GmD k) b_law_by_hand (startD 7 xs) h) := by
  show (if xs.length = 0 then _ else none) = _
  rw [if_pos hl]
theorem run_law (k : Nat) (xs : List D) (h : MH) (hl : xs.length = 1) : runD (k + 1) 67 xs h = outD (exes (GmD k) b_law (startD 4 xs) h) := by
  show (if xs.length = 1 then _ else none) = _
  rw [if_pos hl]
theorem fu_all : allFu df_all := by
  simp only [allFu, df_all, b_is_whole, b_divisor, b_is_fraction, b_is_endless, b_ratio, b_plus, b_minus, b_product, b_quotient, b_less, b_lesser, b_greater, b_floor_of, b_part_of, b_as_fraction, b_is_point, b_is_curve, b_spread, b_settled_points, b_linear_value, b_cubic_value, b_steps_value, b_led, b_is_amount, b_is_timing, b_length_of, b_active_length, b_all_edges, b_phase_of, b_active_time, b_overall_of, b_simple_of, b_iteration_of, b_direction_of, b_told_in, b_check_timing, b_told_at, b_law_cell_at, b_law_mixed, b_law_source, b_law_next, b_law_one, b_law_divisor, b_law_ratio, b_law_plus, b_law_minus, b_law_times, b_law_over, b_law_less, b_law_part, b_law_any_part, b_law_curve, b_law_timing, b_law_added, b_law_product, b_law_is_less, b_law_most, b_law_least, b_law_ends, b_law_phase, b_law_overall, b_law_simple, b_law_moments, b_law_lengthy, b_law_shares_right, b_law_right, b_law_by_hand, b_law, okFus, okFu, fu_at, fu_len, and_self]
theorem pat_sh (n k q : Nat) (xs : List D) : patD k q (shDs n xs) = shDs n (patD k q xs) := by
  unfold patD
  split <;> first | rfl | simp only [shDs_app, shDs_getD, shDs, shD]
theorem cons_no (k : Nat) : noRef (conD k) = true := con_no (cs := cs_all) (by decide +kernel) k
theorem runD_up (p : MH) {K j : Nat} {xs : List D} {h : MH} {d : D} {h1 : MH} (e : runD K j xs h = some (d, h1)) : runD K j (shDs p.length xs) (up p h) = some (shD p.length d, up p h1) :=
  run_sh cons_no pat_sh (fun j df e => allFu_at fu_all j df e) p K j xs h d h1 e
theorem GmD_up (p : MH) (K : Nat) : GOk (GmD K) p := ⟨cons_no, fun k xs h d h1 e => runD_up p e, fun k q xs => pat_sh _ k q xs⟩
/-- what stands by itself and is true on no heap is true on any -/
theorem byhand {K j : Nat} (e : isT (runD K j [] []) = true) (h : MH) : ∃ h1, runD K j [] h = some (.bl true, h1) ∧ Ap h h1 := by
  obtain ⟨h1, e1⟩ := isT_of e
  have := runD_up h e1
  rw [up_nil] at this
  exact ⟨_, this, up_ap _ _⟩

def pkL : Nat → Nat → Option (Nat × List Str)
  | _, _ => none
def prL : List (List Str) := [(["thing"] : List Str), (["one", "other"] : List Str), (["thing"] : List Str), (["thing"] : List Str), (["top", "bottom"] : List Str), (["one", "other"] : List Str), (["one", "other"] : List Str), (["one", "other"] : List Str), (["one", "other"] : List Str), (["one", "other"] : List Str), (["one", "other"] : List Str), (["one", "other"] : List Str), (["one"] : List Str), (["one"] : List Str), (["number"] : List Str), (["thing"] : List Str), (["thing"] : List Str), (["inputs"] : List Str), (["points"] : List Str), (["points", "x"] : List Str), (["a", "b", "x"] : List Str), (["many", "where", "x", "before"] : List Str), (["curve", "x", "before"] : List Str), (["thing"] : List Str), (["thing"] : List Str), (["timing"] : List Str), (["timing"] : List Str), (["timing"] : List Str), (["timing", "time", "sign"] : List Str), (["timing", "time", "phase", "fill"] : List Str), (["timing", "phase", "active"] : List Str), (["timing", "phase", "active", "overall"] : List Str), (["timing", "phase", "overall", "simple"] : List Str), (["way", "iteration"] : List Str), (["timing", "time", "sign"] : List Str), (["timing"] : List Str), (["timing", "time", "sign"] : List Str), (["_law_script", "_law_k"] : List Str), (["_law_cell", "_law_k"] : List Str), (["_law_script", "_law_k"] : List Str), (["_law_source_here", "_law_many"] : List Str), (["_law_source_here", "_law_things"] : List Str), (["_law_one_here", "_law_other"] : List Str), (["_law_top", "_law_bottom"] : List Str), (["_law_one_here", "_law_other"] : List Str), (["_law_one_here", "_law_other"] : List Str), (["_law_one_here", "_law_other"] : List Str), (["_law_one_here", "_law_other"] : List Str), (["_law_one_here", "_law_other"] : List Str), (["_law_source_here"] : List Str), (["_law_source_here"] : List Str), (["_law_source_here"] : List Str), (["_law_source_here"] : List Str), (["_law_one_here", "_law_other"] : List Str), (["_law_one_here", "_law_other"] : List Str), (["_law_one_here", "_law_other"] : List Str), (["_law_one_here", "_law_other"] : List Str), (["_law_one_here", "_law_other"] : List Str), (["_law_timing_here"] : List Str), (["_law_timing_here", "_law_moment", "_law_sign"] : List Str), (["_law_timing_here", "_law_phase_here", "_law_gone"] : List Str), (["_law_timing_here", "_law_phase_here", "_law_gone", "_law_overall_here"] : List Str), (["_law_source_here", "_law_timing_here"] : List Str), (["_law_source_here"] : List Str), (["_law_timing_here", "_law_moment", "_law_sign"] : List Str), (["_law_source_here"] : List Str), ([] : List Str), (["_law_script"] : List Str)]
def Tc : Cc := ⟨cs_all.map (·.1), [("is_whole" : Str), ("divisor" : Str), ("is_fraction" : Str), ("is_endless" : Str), ("ratio" : Str), ("plus" : Str), ("minus" : Str), ("product" : Str), ("quotient" : Str), ("less" : Str), ("lesser" : Str), ("greater" : Str), ("floor_of" : Str), ("part_of" : Str), ("as_fraction" : Str), ("is_point" : Str), ("is_curve" : Str), ("spread" : Str), ("settled_points" : Str), ("linear_value" : Str), ("cubic_value" : Str), ("steps_value" : Str), ("led" : Str), ("is_amount" : Str), ("is_timing" : Str), ("length_of" : Str), ("active_length" : Str), ("all_edges" : Str), ("phase_of" : Str), ("active_time" : Str), ("overall_of" : Str), ("simple_of" : Str), ("iteration_of" : Str), ("direction_of" : Str), ("told_in" : Str), ("check_timing" : Str), ("told_at" : Str), ("_law_cell_at" : Str), ("_law_mixed" : Str), ("_law_source" : Str), ("_law_next" : Str), ("_law_one" : Str), ("_law_divisor" : Str), ("_law_ratio" : Str), ("_law_plus" : Str), ("_law_minus" : Str), ("_law_times" : Str), ("_law_over" : Str), ("_law_less" : Str), ("_law_part" : Str), ("_law_any_part" : Str), ("_law_curve" : Str), ("_law_timing" : Str), ("_law_added" : Str), ("_law_product" : Str), ("_law_is_less" : Str), ("_law_most" : Str), ("_law_least" : Str), ("_law_ends" : Str), ("_law_phase" : Str), ("_law_overall" : Str), ("_law_simple" : Str), ("_law_moments" : Str), ("_law_lengthy" : Str), ("_law_shares_right" : Str), ("_law_right" : Str), ("_law_by_hand" : Str), ("law" : Str)], pkL, fun j => prL.getD j []⟩
def top (i : Nat) : Stmt := PySem.Challenge.pw_framecues_k12_progress_of_all_lengths.main.body.getD i (.Pass ⟨0, 0, 0, 0⟩)
theorem sc_is_whole : FnScope ["thing"] ["thing"] (defScope (top 9)) := ⟨rfl, rfl, rfl, by decide +kernel, rfl, by decide +kernel, by decide +kernel⟩
theorem ok_is_whole : okSs Tc ["thing"] (defScope (top 9)) b_is_whole (defBody (top 9)) = true := by decide +kernel
theorem sc_divisor : FnScope ["one", "other"] ["one", "other"] (defScope (top 10)) := ⟨rfl, rfl, rfl, by decide +kernel, rfl, by decide +kernel, by decide +kernel⟩
theorem ok_divisor : okSs Tc ["one", "other"] (defScope (top 10)) b_divisor (defBody (top 10)) = true := by decide +kernel
theorem sc_is_fraction : FnScope ["thing"] ["thing"] (defScope (top 11)) := ⟨rfl, rfl, rfl, by decide +kernel, rfl, by decide +kernel, by decide +kernel⟩
theorem ok_is_fraction : okSs Tc ["thing"] (defScope (top 11)) b_is_fraction (defBody (top 11)) = true := by decide +kernel
theorem sc_is_endless : FnScope ["thing"] ["thing"] (defScope (top 12)) := ⟨rfl, rfl, rfl, by decide +kernel, rfl, by decide +kernel, by decide +kernel⟩
theorem ok_is_endless : okSs Tc ["thing"] (defScope (top 12)) b_is_endless (defBody (top 12)) = true := by decide +kernel
theorem sc_ratio : FnScope ["top", "bottom", "measure"] ["top", "bottom"] (defScope (top 13)) := ⟨rfl, rfl, rfl, by decide +kernel, rfl, by decide +kernel, by decide +kernel⟩
theorem ok_ratio : okSs Tc ["top", "bottom", "measure"] (defScope (top 13)) b_ratio (defBody (top 13)) = true := by decide +kernel
theorem sc_plus : FnScope ["one", "other"] ["one", "other"] (defScope (top 14)) := ⟨rfl, rfl, rfl, by decide +kernel, rfl, by decide +kernel, by decide +kernel⟩
theorem ok_plus : okSs Tc ["one", "other"] (defScope (top 14)) b_plus (defBody (top 14)) = true := by decide +kernel
theorem sc_minus : FnScope ["one", "other"] ["one", "other"] (defScope (top 15)) := ⟨rfl, rfl, rfl, by decide +kernel, rfl, by decide +kernel, by decide +kernel⟩
theorem ok_minus : okSs Tc ["one", "other"] (defScope (top 15)) b_minus (defBody (top 15)) = true := by decide +kernel
theorem sc_product : FnScope ["one", "other"] ["one", "other"] (defScope (top 16)) := ⟨rfl, rfl, rfl, by decide +kernel, rfl, by decide +kernel, by decide +kernel⟩
theorem ok_product : okSs Tc ["one", "other"] (defScope (top 16)) b_product (defBody (top 16)) = true := by decide +kernel
theorem sc_quotient : FnScope ["one", "other"] ["one", "other"] (defScope (top 17)) := ⟨rfl, rfl, rfl, by decide +kernel, rfl, by decide +kernel, by decide +kernel⟩
theorem ok_quotient : okSs Tc ["one", "other"] (defScope (top 17)) b_quotient (defBody (top 17)) = true := by decide +kernel
theorem sc_less : FnScope ["one", "other"] ["one", "other"] (defScope (top 18)) := ⟨rfl, rfl, rfl, by decide +kernel, rfl, by decide +kernel, by decide +kernel⟩
theorem ok_less : okSs Tc ["one", "other"] (defScope (top 18)) b_less (defBody (top 18)) = true := by decide +kernel
theorem sc_lesser : FnScope ["one", "other"] ["one", "other"] (defScope (top 19)) := ⟨rfl, rfl, rfl, by decide +kernel, rfl, by decide +kernel, by decide +kernel⟩
theorem ok_lesser : okSs Tc ["one", "other"] (defScope (top 19)) b_lesser (defBody (top 19)) = true := by decide +kernel
theorem sc_greater : FnScope ["one", "other"] ["one", "other"] (defScope (top 20)) := ⟨rfl, rfl, rfl, by decide +kernel, rfl, by decide +kernel, by decide +kernel⟩
theorem ok_greater : okSs Tc ["one", "other"] (defScope (top 20)) b_greater (defBody (top 20)) = true := by decide +kernel
theorem sc_floor_of : FnScope ["one"] ["one"] (defScope (top 21)) := ⟨rfl, rfl, rfl, by decide +kernel, rfl, by decide +kernel, by decide +kernel⟩
theorem ok_floor_of : okSs Tc ["one"] (defScope (top 21)) b_floor_of (defBody (top 21)) = true := by decide +kernel
theorem sc_part_of : FnScope ["one"] ["one"] (defScope (top 22)) := ⟨rfl, rfl, rfl, by decide +kernel, rfl, by decide +kernel, by decide +kernel⟩
theorem ok_part_of : okSs Tc ["one"] (defScope (top 22)) b_part_of (defBody (top 22)) = true := by decide +kernel
theorem sc_as_fraction : FnScope ["number"] ["number"] (defScope (top 23)) := ⟨rfl, rfl, rfl, by decide +kernel, rfl, by decide +kernel, by decide +kernel⟩
theorem ok_as_fraction : okSs Tc ["number"] (defScope (top 23)) b_as_fraction (defBody (top 23)) = true := by decide +kernel
theorem sc_is_point : FnScope ["thing"] ["thing"] (defScope (top 26)) := ⟨rfl, rfl, rfl, by decide +kernel, rfl, by decide +kernel, by decide +kernel⟩
theorem ok_is_point : okSs Tc ["thing"] (defScope (top 26)) b_is_point (defBody (top 26)) = true := by decide +kernel
theorem sc_is_curve : FnScope ["thing", "point"] ["thing"] (defScope (top 27)) := ⟨rfl, rfl, rfl, by decide +kernel, rfl, by decide +kernel, by decide +kernel⟩
theorem ok_is_curve : okSs Tc ["thing", "point"] (defScope (top 27)) b_is_curve (defBody (top 27)) = true := by decide +kernel
theorem sc_spread : FnScope ["inputs", "found", "at", "behind", "gap", "place"] ["inputs"] (defScope (top 28)) := ⟨rfl, rfl, rfl, by decide +kernel, rfl, by decide +kernel, by decide +kernel⟩
theorem ok_spread : okSs Tc ["inputs", "found", "at", "behind", "gap", "place"] (defScope (top 28)) b_spread (defBody (top 28)) = true := by decide +kernel
theorem sc_settled_points : FnScope ["points", "inputs", "most", "at", "told", "point"] ["points"] (defScope (top 29)) := ⟨rfl, rfl, rfl, by decide +kernel, rfl, by decide +kernel, by decide +kernel⟩
theorem ok_settled_points : okSs Tc ["points", "inputs", "most", "at", "told", "point"] (defScope (top 29)) b_settled_points (defBody (top 29)) = true := by decide +kernel
theorem sc_linear_value : FnScope ["points", "x", "ahead", "at", "part", "first", "second"] ["points", "x"] (defScope (top 30)) := ⟨rfl, rfl, rfl, by decide +kernel, rfl, by decide +kernel, by decide +kernel⟩
theorem ok_linear_value : okSs Tc ["points", "x", "ahead", "at", "part", "first", "second"] (defScope (top 30)) b_linear_value (defBody (top 30)) = true := by decide +kernel
theorem sc_cubic_value : FnScope ["a", "b", "x", "rest", "first", "second"] ["a", "b", "x"] (defScope (top 31)) := ⟨rfl, rfl, rfl, by decide +kernel, rfl, by decide +kernel, by decide +kernel⟩
theorem ok_cubic_value : okSs Tc ["a", "b", "x", "rest", "first", "second"] (defScope (top 31)) b_cubic_value (defBody (top 31)) = true := by decide +kernel
theorem sc_steps_value : FnScope ["many", "where", "x", "before", "place", "found", "jumps"] ["many", "where", "x", "before"] (defScope (top 32)) := ⟨rfl, rfl, rfl, by decide +kernel, rfl, by decide +kernel, by decide +kernel⟩
theorem ok_steps_value : okSs Tc ["many", "where", "x", "before", "place", "found", "jumps"] (defScope (top 32)) b_steps_value (defBody (top 32)) = true := by decide +kernel
theorem sc_led : FnScope ["curve", "x", "before"] ["curve", "x", "before"] (defScope (top 33)) := ⟨rfl, rfl, rfl, by decide +kernel, rfl, by decide +kernel, by decide +kernel⟩
theorem ok_led : okSs Tc ["curve", "x", "before"] (defScope (top 33)) b_led (defBody (top 33)) = true := by decide +kernel
theorem sc_is_amount : FnScope ["thing"] ["thing"] (defScope (top 37)) := ⟨rfl, rfl, rfl, by decide +kernel, rfl, by decide +kernel, by decide +kernel⟩
theorem ok_is_amount : okSs Tc ["thing"] (defScope (top 37)) b_is_amount (defBody (top 37)) = true := by decide +kernel
theorem sc_is_timing : FnScope ["thing", "delay", "behind", "fill", "first", "many", "length", "way", "curve"] ["thing"] (defScope (top 38)) := ⟨rfl, rfl, rfl, by decide +kernel, rfl, by decide +kernel, by decide +kernel⟩
theorem ok_is_timing : okSs Tc ["thing", "delay", "behind", "fill", "first", "many", "length", "way", "curve"] (defScope (top 38)) b_is_timing (defBody (top 38)) = true := by decide +kernel
theorem sc_length_of : FnScope ["timing"] ["timing"] (defScope (top 39)) := ⟨rfl, rfl, rfl, by decide +kernel, rfl, by decide +kernel, by decide +kernel⟩
theorem ok_length_of : okSs Tc ["timing"] (defScope (top 39)) b_length_of (defBody (top 39)) = true := by decide +kernel
theorem sc_active_length : FnScope ["timing"] ["timing"] (defScope (top 40)) := ⟨rfl, rfl, rfl, by decide +kernel, rfl, by decide +kernel, by decide +kernel⟩
theorem ok_active_length : okSs Tc ["timing"] (defScope (top 40)) b_active_length (defBody (top 40)) = true := by decide +kernel
theorem sc_all_edges : FnScope ["timing", "active", "end", "first", "second"] ["timing"] (defScope (top 41)) := ⟨rfl, rfl, rfl, by decide +kernel, rfl, by decide +kernel, by decide +kernel⟩
theorem ok_all_edges : okSs Tc ["timing", "active", "end", "first", "second"] (defScope (top 41)) b_all_edges (defBody (top 41)) = true := by decide +kernel
theorem sc_phase_of : FnScope ["timing", "time", "sign", "first", "second", "end"] ["timing", "time", "sign"] (defScope (top 42)) := ⟨rfl, rfl, rfl, by decide +kernel, rfl, by decide +kernel, by decide +kernel⟩
theorem ok_phase_of : okSs Tc ["timing", "time", "sign", "first", "second", "end"] (defScope (top 42)) b_phase_of (defBody (top 42)) = true := by decide +kernel
theorem sc_active_time : FnScope ["timing", "time", "phase", "fill"] ["timing", "time", "phase", "fill"] (defScope (top 43)) := ⟨rfl, rfl, rfl, by decide +kernel, rfl, by decide +kernel, by decide +kernel⟩
theorem ok_active_time : okSs Tc ["timing", "time", "phase", "fill"] (defScope (top 43)) b_active_time (defBody (top 43)) = true := by decide +kernel
theorem sc_overall_of : FnScope ["timing", "phase", "active", "length"] ["timing", "phase", "active"] (defScope (top 44)) := ⟨rfl, rfl, rfl, by decide +kernel, rfl, by decide +kernel, by decide +kernel⟩
theorem ok_overall_of : okSs Tc ["timing", "phase", "active", "length"] (defScope (top 44)) b_overall_of (defBody (top 44)) = true := by decide +kernel
theorem sc_simple_of : FnScope ["timing", "phase", "active", "overall", "found"] ["timing", "phase", "active", "overall"] (defScope (top 45)) := ⟨rfl, rfl, rfl, by decide +kernel, rfl, by decide +kernel, by decide +kernel⟩
theorem ok_simple_of : okSs Tc ["timing", "phase", "active", "overall", "found"] (defScope (top 45)) b_simple_of (defBody (top 45)) = true := by decide +kernel
theorem sc_iteration_of : FnScope ["timing", "phase", "overall", "simple"] ["timing", "phase", "overall", "simple"] (defScope (top 46)) := ⟨rfl, rfl, rfl, by decide +kernel, rfl, by decide +kernel, by decide +kernel⟩
theorem ok_iteration_of : okSs Tc ["timing", "phase", "overall", "simple"] (defScope (top 46)) b_iteration_of (defBody (top 46)) = true := by decide +kernel
theorem sc_direction_of : FnScope ["way", "iteration"] ["way", "iteration"] (defScope (top 47)) := ⟨rfl, rfl, rfl, by decide +kernel, rfl, by decide +kernel, by decide +kernel⟩
theorem ok_direction_of : okSs Tc ["way", "iteration"] (defScope (top 47)) b_direction_of (defBody (top 47)) = true := by decide +kernel
theorem sc_told_in : FnScope ["timing", "time", "sign", "phase", "active", "overall", "simple", "iteration", "direction", "directed", "before"] ["timing", "time", "sign"] (defScope (top 48)) := ⟨rfl, rfl, rfl, by decide +kernel, rfl, by decide +kernel, by decide +kernel⟩
theorem ok_told_in : okSs Tc ["timing", "time", "sign", "phase", "active", "overall", "simple", "iteration", "direction", "directed", "before"] (defScope (top 48)) b_told_in (defBody (top 48)) = true := by decide +kernel
theorem sc_check_timing : FnScope ["timing"] ["timing"] (defScope (top 49)) := ⟨rfl, rfl, rfl, by decide +kernel, rfl, by decide +kernel, by decide +kernel⟩
theorem ok_check_timing : okSs Tc ["timing"] (defScope (top 49)) b_check_timing (defBody (top 49)) = true := by decide +kernel
theorem sc_told_at : FnScope ["timing", "time", "sign"] ["timing", "time", "sign"] (defScope (top 50)) := ⟨rfl, rfl, rfl, by decide +kernel, rfl, by decide +kernel, by decide +kernel⟩
theorem ok_told_at : okSs Tc ["timing", "time", "sign"] (defScope (top 50)) b_told_at (defBody (top 50)) = true := by decide +kernel
theorem sc_law_cell_at : FnScope ["_law_script", "_law_k"] ["_law_script", "_law_k"] (defScope (top 52)) := ⟨rfl, rfl, rfl, by decide +kernel, rfl, by decide +kernel, by decide +kernel⟩
theorem ok_law_cell_at : okSs Tc ["_law_script", "_law_k"] (defScope (top 52)) b_law_cell_at (defBody (top 52)) = true := by decide +kernel
theorem sc_law_mixed : FnScope ["_law_cell", "_law_k", "_law_low"] ["_law_cell", "_law_k"] (defScope (top 53)) := ⟨rfl, rfl, rfl, by decide +kernel, rfl, by decide +kernel, by decide +kernel⟩
theorem ok_law_mixed : okSs Tc ["_law_cell", "_law_k", "_law_low"] (defScope (top 53)) b_law_mixed (defBody (top 53)) = true := by decide +kernel
theorem sc_law_source : FnScope ["_law_script", "_law_k", "_law_cell"] ["_law_script", "_law_k"] (defScope (top 54)) := ⟨rfl, rfl, rfl, by decide +kernel, rfl, by decide +kernel, by decide +kernel⟩
theorem ok_law_source : okSs Tc ["_law_script", "_law_k", "_law_cell"] (defScope (top 54)) b_law_source (defBody (top 54)) = true := by decide +kernel
theorem sc_law_next : FnScope ["_law_source_here", "_law_many", "_law_found"] ["_law_source_here", "_law_many"] (defScope (top 55)) := ⟨rfl, rfl, rfl, by decide +kernel, rfl, by decide +kernel, by decide +kernel⟩
theorem ok_law_next : okSs Tc ["_law_source_here", "_law_many", "_law_found"] (defScope (top 55)) b_law_next (defBody (top 55)) = true := by decide +kernel
theorem sc_law_one : FnScope ["_law_source_here", "_law_things"] ["_law_source_here", "_law_things"] (defScope (top 56)) := ⟨rfl, rfl, rfl, by decide +kernel, rfl, by decide +kernel, by decide +kernel⟩
theorem ok_law_one : okSs Tc ["_law_source_here", "_law_things"] (defScope (top 56)) b_law_one (defBody (top 56)) = true := by decide +kernel
theorem sc_law_divisor : FnScope ["_law_one_here", "_law_other"] ["_law_one_here", "_law_other"] (defScope (top 57)) := ⟨rfl, rfl, rfl, by decide +kernel, rfl, by decide +kernel, by decide +kernel⟩
theorem ok_law_divisor : okSs Tc ["_law_one_here", "_law_other"] (defScope (top 57)) b_law_divisor (defBody (top 57)) = true := by decide +kernel
theorem sc_law_ratio : FnScope ["_law_top", "_law_bottom", "_law_measure"] ["_law_top", "_law_bottom"] (defScope (top 58)) := ⟨rfl, rfl, rfl, by decide +kernel, rfl, by decide +kernel, by decide +kernel⟩
theorem ok_law_ratio : okSs Tc ["_law_top", "_law_bottom", "_law_measure"] (defScope (top 58)) b_law_ratio (defBody (top 58)) = true := by decide +kernel
theorem sc_law_plus : FnScope ["_law_one_here", "_law_other"] ["_law_one_here", "_law_other"] (defScope (top 59)) := ⟨rfl, rfl, rfl, by decide +kernel, rfl, by decide +kernel, by decide +kernel⟩
theorem ok_law_plus : okSs Tc ["_law_one_here", "_law_other"] (defScope (top 59)) b_law_plus (defBody (top 59)) = true := by decide +kernel
theorem sc_law_minus : FnScope ["_law_one_here", "_law_other"] ["_law_one_here", "_law_other"] (defScope (top 60)) := ⟨rfl, rfl, rfl, by decide +kernel, rfl, by decide +kernel, by decide +kernel⟩
theorem ok_law_minus : okSs Tc ["_law_one_here", "_law_other"] (defScope (top 60)) b_law_minus (defBody (top 60)) = true := by decide +kernel
theorem sc_law_times : FnScope ["_law_one_here", "_law_other"] ["_law_one_here", "_law_other"] (defScope (top 61)) := ⟨rfl, rfl, rfl, by decide +kernel, rfl, by decide +kernel, by decide +kernel⟩
theorem ok_law_times : okSs Tc ["_law_one_here", "_law_other"] (defScope (top 61)) b_law_times (defBody (top 61)) = true := by decide +kernel
theorem sc_law_over : FnScope ["_law_one_here", "_law_other"] ["_law_one_here", "_law_other"] (defScope (top 62)) := ⟨rfl, rfl, rfl, by decide +kernel, rfl, by decide +kernel, by decide +kernel⟩
theorem ok_law_over : okSs Tc ["_law_one_here", "_law_other"] (defScope (top 62)) b_law_over (defBody (top 62)) = true := by decide +kernel
theorem sc_law_less : FnScope ["_law_one_here", "_law_other"] ["_law_one_here", "_law_other"] (defScope (top 63)) := ⟨rfl, rfl, rfl, by decide +kernel, rfl, by decide +kernel, by decide +kernel⟩
theorem ok_law_less : okSs Tc ["_law_one_here", "_law_other"] (defScope (top 63)) b_law_less (defBody (top 63)) = true := by decide +kernel
theorem sc_law_part : FnScope ["_law_source_here", "_law_way"] ["_law_source_here"] (defScope (top 64)) := ⟨rfl, rfl, rfl, by decide +kernel, rfl, by decide +kernel, by decide +kernel⟩
theorem ok_law_part : okSs Tc ["_law_source_here", "_law_way"] (defScope (top 64)) b_law_part (defBody (top 64)) = true := by decide +kernel
theorem sc_law_any_part : FnScope ["_law_source_here", "_law_found"] ["_law_source_here"] (defScope (top 65)) := ⟨rfl, rfl, rfl, by decide +kernel, rfl, by decide +kernel, by decide +kernel⟩
theorem ok_law_any_part : okSs Tc ["_law_source_here", "_law_found"] (defScope (top 65)) b_law_any_part (defBody (top 65)) = true := by decide +kernel
theorem sc_law_curve : FnScope ["_law_source_here", "_law_way", "_law_found", "_law_turn", "_law_where", "_law_told"] ["_law_source_here"] (defScope (top 66)) := ⟨rfl, rfl, rfl, by decide +kernel, rfl, by decide +kernel, by decide +kernel⟩
theorem ok_law_curve : okSs Tc ["_law_source_here", "_law_way", "_law_found", "_law_turn", "_law_where", "_law_told"] (defScope (top 66)) b_law_curve (defBody (top 66)) = true := by decide +kernel
theorem sc_law_timing : FnScope ["_law_source_here", "_law_delay", "_law_behind", "_law_fill", "_law_first", "_law_many", "_law_lengths", "_law_length", "_law_way"] ["_law_source_here"] (defScope (top 67)) := ⟨rfl, rfl, rfl, by decide +kernel, rfl, by decide +kernel, by decide +kernel⟩
theorem ok_law_timing : okSs Tc ["_law_source_here", "_law_delay", "_law_behind", "_law_fill", "_law_first", "_law_many", "_law_lengths", "_law_length", "_law_way"] (defScope (top 67)) b_law_timing (defBody (top 67)) = true := by decide +kernel
theorem sc_law_added : FnScope ["_law_one_here", "_law_other"] ["_law_one_here", "_law_other"] (defScope (top 68)) := ⟨rfl, rfl, rfl, by decide +kernel, rfl, by decide +kernel, by decide +kernel⟩
theorem ok_law_added : okSs Tc ["_law_one_here", "_law_other"] (defScope (top 68)) b_law_added (defBody (top 68)) = true := by decide +kernel
theorem sc_law_product : FnScope ["_law_one_here", "_law_other"] ["_law_one_here", "_law_other"] (defScope (top 69)) := ⟨rfl, rfl, rfl, by decide +kernel, rfl, by decide +kernel, by decide +kernel⟩
theorem ok_law_product : okSs Tc ["_law_one_here", "_law_other"] (defScope (top 69)) b_law_product (defBody (top 69)) = true := by decide +kernel
theorem sc_law_is_less : FnScope ["_law_one_here", "_law_other"] ["_law_one_here", "_law_other"] (defScope (top 70)) := ⟨rfl, rfl, rfl, by decide +kernel, rfl, by decide +kernel, by decide +kernel⟩
theorem ok_law_is_less : okSs Tc ["_law_one_here", "_law_other"] (defScope (top 70)) b_law_is_less (defBody (top 70)) = true := by decide +kernel
theorem sc_law_most : FnScope ["_law_one_here", "_law_other"] ["_law_one_here", "_law_other"] (defScope (top 71)) := ⟨rfl, rfl, rfl, by decide +kernel, rfl, by decide +kernel, by decide +kernel⟩
theorem ok_law_most : okSs Tc ["_law_one_here", "_law_other"] (defScope (top 71)) b_law_most (defBody (top 71)) = true := by decide +kernel
theorem sc_law_least : FnScope ["_law_one_here", "_law_other"] ["_law_one_here", "_law_other"] (defScope (top 72)) := ⟨rfl, rfl, rfl, by decide +kernel, rfl, by decide +kernel, by decide +kernel⟩
theorem ok_law_least : okSs Tc ["_law_one_here", "_law_other"] (defScope (top 72)) b_law_least (defBody (top 72)) = true := by decide +kernel
theorem sc_law_ends : FnScope ["_law_timing_here", "_law_active", "_law_end", "_law_delay", "_law_behind", "_law_fill", "_law_first", "_law_many", "_law_size", "_law_way", "_law_curve_here", "_law_near", "_law_far"] ["_law_timing_here"] (defScope (top 73)) := ⟨rfl, rfl, rfl, by decide +kernel, rfl, by decide +kernel, by decide +kernel⟩
theorem ok_law_ends : okSs Tc ["_law_timing_here", "_law_active", "_law_end", "_law_delay", "_law_behind", "_law_fill", "_law_first", "_law_many", "_law_size", "_law_way", "_law_curve_here", "_law_near", "_law_far"] (defScope (top 73)) b_law_ends (defBody (top 73)) = true := by decide +kernel
theorem sc_law_phase : FnScope ["_law_timing_here", "_law_moment", "_law_sign", "_law_near", "_law_far", "_law_end", "_law_active"] ["_law_timing_here", "_law_moment", "_law_sign"] (defScope (top 74)) := ⟨rfl, rfl, rfl, by decide +kernel, rfl, by decide +kernel, by decide +kernel⟩
theorem ok_law_phase : okSs Tc ["_law_timing_here", "_law_moment", "_law_sign", "_law_near", "_law_far", "_law_end", "_law_active"] (defScope (top 74)) b_law_phase (defBody (top 74)) = true := by decide +kernel
theorem sc_law_overall : FnScope ["_law_timing_here", "_law_phase_here", "_law_gone"] ["_law_timing_here", "_law_phase_here", "_law_gone"] (defScope (top 75)) := ⟨rfl, rfl, rfl, by decide +kernel, rfl, by decide +kernel, by decide +kernel⟩
theorem ok_law_overall : okSs Tc ["_law_timing_here", "_law_phase_here", "_law_gone"] (defScope (top 75)) b_law_overall (defBody (top 75)) = true := by decide +kernel
theorem sc_law_simple : FnScope ["_law_timing_here", "_law_phase_here", "_law_gone", "_law_overall_here", "_law_part_here", "_law_is_end"] ["_law_timing_here", "_law_phase_here", "_law_gone", "_law_overall_here"] (defScope (top 76)) := ⟨rfl, rfl, rfl, by decide +kernel, rfl, by decide +kernel, by decide +kernel⟩
theorem ok_law_simple : okSs Tc ["_law_timing_here", "_law_phase_here", "_law_gone", "_law_overall_here", "_law_part_here", "_law_is_end"] (defScope (top 76)) b_law_simple (defBody (top 76)) = true := by decide +kernel
theorem sc_law_moments : FnScope ["_law_source_here", "_law_timing_here", "_law_found", "_law_tiny", "_law_near", "_law_far", "_law_end", "_law_active", "_law_k", "_law_one_here", "_law_share"] ["_law_source_here", "_law_timing_here"] (defScope (top 77)) := ⟨rfl, rfl, rfl, by decide +kernel, rfl, by decide +kernel, by decide +kernel⟩
theorem ok_law_moments : okSs Tc ["_law_source_here", "_law_timing_here", "_law_found", "_law_tiny", "_law_near", "_law_far", "_law_end", "_law_active", "_law_k", "_law_one_here", "_law_share"] (defScope (top 77)) b_law_moments (defBody (top 77)) = true := by decide +kernel
theorem sc_law_lengthy : FnScope ["_law_source_here", "_law_timing_here", "_law_length", "_law_many", "_law_first"] ["_law_source_here"] (defScope (top 78)) := ⟨rfl, rfl, rfl, by decide +kernel, rfl, by decide +kernel, by decide +kernel⟩
theorem ok_law_lengthy : okSs Tc ["_law_source_here", "_law_timing_here", "_law_length", "_law_many", "_law_first"] (defScope (top 78)) b_law_lengthy (defBody (top 78)) = true := by decide +kernel
theorem sc_law_shares_right : FnScope ["_law_timing_here", "_law_moment", "_law_sign", "_law_found", "_law_overall_here", "_law_simple_here", "_law_phase_here", "_law_gone"] ["_law_timing_here", "_law_moment", "_law_sign"] (defScope (top 79)) := ⟨rfl, rfl, rfl, by decide +kernel, rfl, by decide +kernel, by decide +kernel⟩
theorem ok_law_shares_right : okSs Tc ["_law_timing_here", "_law_moment", "_law_sign", "_law_found", "_law_overall_here", "_law_simple_here", "_law_phase_here", "_law_gone"] (defScope (top 79)) b_law_shares_right (defBody (top 79)) = true := by decide +kernel
theorem sc_law_right : FnScope ["_law_source_here", "_law_timing_here", "_law_moment", "_law_sign"] ["_law_source_here"] (defScope (top 80)) := ⟨rfl, rfl, rfl, by decide +kernel, rfl, by decide +kernel, by decide +kernel⟩
theorem ok_law_right : okSs Tc ["_law_source_here", "_law_timing_here", "_law_moment", "_law_sign"] (defScope (top 80)) b_law_right (defBody (top 80)) = true := by decide +kernel
theorem sc_law_by_hand : FnScope ["_law_straight", "_law_some", "_law_none", "_law_rest", "_law_at_once", "_law_moment", "_law_sign"] [] (defScope (top 81)) := ⟨rfl, rfl, rfl, by decide +kernel, rfl, by decide +kernel, by decide +kernel⟩
theorem ok_law_by_hand : okSs Tc ["_law_straight", "_law_some", "_law_none", "_law_rest", "_law_at_once", "_law_moment", "_law_sign"] (defScope (top 81)) b_law_by_hand (defBody (top 81)) = true := by decide +kernel
theorem sc_law : FnScope ["_law_script", "_law_k", "_law_source_here", "_law_turn"] ["_law_script"] (defScope (top 82)) := ⟨rfl, rfl, rfl, by decide +kernel, rfl, by decide +kernel, by decide +kernel⟩
theorem ok_law : okSs Tc ["_law_script", "_law_k", "_law_source_here", "_law_turn"] (defScope (top 82)) b_law (defBody (top 82)) = true := by decide +kernel
def dd_is_whole : He.DefD := ⟨("is_whole", none), "is_whole", "is_whole", defArgs (top 9), defBody (top 9), defScope (top 9), [], []⟩
def dd_divisor : He.DefD := ⟨("divisor", none), "divisor", "divisor", defArgs (top 10), defBody (top 10), defScope (top 10), [], []⟩
def dd_is_fraction : He.DefD := ⟨("is_fraction", none), "is_fraction", "is_fraction", defArgs (top 11), defBody (top 11), defScope (top 11), [], []⟩
def dd_is_endless : He.DefD := ⟨("is_endless", none), "is_endless", "is_endless", defArgs (top 12), defBody (top 12), defScope (top 12), [], []⟩
def dd_ratio : He.DefD := ⟨("ratio", none), "ratio", "ratio", defArgs (top 13), defBody (top 13), defScope (top 13), [], []⟩
def dd_plus : He.DefD := ⟨("plus", none), "plus", "plus", defArgs (top 14), defBody (top 14), defScope (top 14), [], []⟩
def dd_minus : He.DefD := ⟨("minus", none), "minus", "minus", defArgs (top 15), defBody (top 15), defScope (top 15), [], []⟩
def dd_product : He.DefD := ⟨("product", none), "product", "product", defArgs (top 16), defBody (top 16), defScope (top 16), [], []⟩
def dd_quotient : He.DefD := ⟨("quotient", none), "quotient", "quotient", defArgs (top 17), defBody (top 17), defScope (top 17), [], []⟩
def dd_less : He.DefD := ⟨("less", none), "less", "less", defArgs (top 18), defBody (top 18), defScope (top 18), [], []⟩
def dd_lesser : He.DefD := ⟨("lesser", none), "lesser", "lesser", defArgs (top 19), defBody (top 19), defScope (top 19), [], []⟩
def dd_greater : He.DefD := ⟨("greater", none), "greater", "greater", defArgs (top 20), defBody (top 20), defScope (top 20), [], []⟩
def dd_floor_of : He.DefD := ⟨("floor_of", none), "floor_of", "floor_of", defArgs (top 21), defBody (top 21), defScope (top 21), [], []⟩
def dd_part_of : He.DefD := ⟨("part_of", none), "part_of", "part_of", defArgs (top 22), defBody (top 22), defScope (top 22), [], []⟩
def dd_as_fraction : He.DefD := ⟨("as_fraction", none), "as_fraction", "as_fraction", defArgs (top 23), defBody (top 23), defScope (top 23), [], []⟩
def dd_is_point : He.DefD := ⟨("is_point", none), "is_point", "is_point", defArgs (top 26), defBody (top 26), defScope (top 26), [], []⟩
def dd_is_curve : He.DefD := ⟨("is_curve", none), "is_curve", "is_curve", defArgs (top 27), defBody (top 27), defScope (top 27), [], []⟩
def dd_spread : He.DefD := ⟨("spread", none), "spread", "spread", defArgs (top 28), defBody (top 28), defScope (top 28), [], []⟩
def dd_settled_points : He.DefD := ⟨("settled_points", none), "settled_points", "settled_points", defArgs (top 29), defBody (top 29), defScope (top 29), [], []⟩
def dd_linear_value : He.DefD := ⟨("linear_value", none), "linear_value", "linear_value", defArgs (top 30), defBody (top 30), defScope (top 30), [], []⟩
def dd_cubic_value : He.DefD := ⟨("cubic_value", none), "cubic_value", "cubic_value", defArgs (top 31), defBody (top 31), defScope (top 31), [], []⟩
def dd_steps_value : He.DefD := ⟨("steps_value", none), "steps_value", "steps_value", defArgs (top 32), defBody (top 32), defScope (top 32), [], []⟩
def dd_led : He.DefD := ⟨("led", none), "led", "led", defArgs (top 33), defBody (top 33), defScope (top 33), [], []⟩
def dd_is_amount : He.DefD := ⟨("is_amount", none), "is_amount", "is_amount", defArgs (top 37), defBody (top 37), defScope (top 37), [], []⟩
def dd_is_timing : He.DefD := ⟨("is_timing", none), "is_timing", "is_timing", defArgs (top 38), defBody (top 38), defScope (top 38), [], []⟩
def dd_length_of : He.DefD := ⟨("length_of", none), "length_of", "length_of", defArgs (top 39), defBody (top 39), defScope (top 39), [], []⟩
def dd_active_length : He.DefD := ⟨("active_length", none), "active_length", "active_length", defArgs (top 40), defBody (top 40), defScope (top 40), [], []⟩
def dd_all_edges : He.DefD := ⟨("all_edges", none), "all_edges", "all_edges", defArgs (top 41), defBody (top 41), defScope (top 41), [], []⟩
def dd_phase_of : He.DefD := ⟨("phase_of", none), "phase_of", "phase_of", defArgs (top 42), defBody (top 42), defScope (top 42), [], []⟩
def dd_active_time : He.DefD := ⟨("active_time", none), "active_time", "active_time", defArgs (top 43), defBody (top 43), defScope (top 43), [], []⟩
def dd_overall_of : He.DefD := ⟨("overall_of", none), "overall_of", "overall_of", defArgs (top 44), defBody (top 44), defScope (top 44), [], []⟩
def dd_simple_of : He.DefD := ⟨("simple_of", none), "simple_of", "simple_of", defArgs (top 45), defBody (top 45), defScope (top 45), [], []⟩
def dd_iteration_of : He.DefD := ⟨("iteration_of", none), "iteration_of", "iteration_of", defArgs (top 46), defBody (top 46), defScope (top 46), [], []⟩
def dd_direction_of : He.DefD := ⟨("direction_of", none), "direction_of", "direction_of", defArgs (top 47), defBody (top 47), defScope (top 47), [], []⟩
def dd_told_in : He.DefD := ⟨("told_in", none), "told_in", "told_in", defArgs (top 48), defBody (top 48), defScope (top 48), [], []⟩
def dd_check_timing : He.DefD := ⟨("check_timing", none), "check_timing", "check_timing", defArgs (top 49), defBody (top 49), defScope (top 49), [], []⟩
def dd_told_at : He.DefD := ⟨("told_at", none), "told_at", "told_at", defArgs (top 50), defBody (top 50), defScope (top 50), [], []⟩
def dd_law_cell_at : He.DefD := ⟨("_law_cell_at", none), "_law_cell_at", "_law_cell_at", defArgs (top 52), defBody (top 52), defScope (top 52), [], []⟩
def dd_law_mixed : He.DefD := ⟨("_law_mixed", none), "_law_mixed", "_law_mixed", defArgs (top 53), defBody (top 53), defScope (top 53), [], []⟩
def dd_law_source : He.DefD := ⟨("_law_source", none), "_law_source", "_law_source", defArgs (top 54), defBody (top 54), defScope (top 54), [], []⟩
def dd_law_next : He.DefD := ⟨("_law_next", none), "_law_next", "_law_next", defArgs (top 55), defBody (top 55), defScope (top 55), [], []⟩
def dd_law_one : He.DefD := ⟨("_law_one", none), "_law_one", "_law_one", defArgs (top 56), defBody (top 56), defScope (top 56), [], []⟩
def dd_law_divisor : He.DefD := ⟨("_law_divisor", none), "_law_divisor", "_law_divisor", defArgs (top 57), defBody (top 57), defScope (top 57), [], []⟩
def dd_law_ratio : He.DefD := ⟨("_law_ratio", none), "_law_ratio", "_law_ratio", defArgs (top 58), defBody (top 58), defScope (top 58), [], []⟩
def dd_law_plus : He.DefD := ⟨("_law_plus", none), "_law_plus", "_law_plus", defArgs (top 59), defBody (top 59), defScope (top 59), [], []⟩
def dd_law_minus : He.DefD := ⟨("_law_minus", none), "_law_minus", "_law_minus", defArgs (top 60), defBody (top 60), defScope (top 60), [], []⟩
def dd_law_times : He.DefD := ⟨("_law_times", none), "_law_times", "_law_times", defArgs (top 61), defBody (top 61), defScope (top 61), [], []⟩
def dd_law_over : He.DefD := ⟨("_law_over", none), "_law_over", "_law_over", defArgs (top 62), defBody (top 62), defScope (top 62), [], []⟩
def dd_law_less : He.DefD := ⟨("_law_less", none), "_law_less", "_law_less", defArgs (top 63), defBody (top 63), defScope (top 63), [], []⟩
def dd_law_part : He.DefD := ⟨("_law_part", none), "_law_part", "_law_part", defArgs (top 64), defBody (top 64), defScope (top 64), [], []⟩
def dd_law_any_part : He.DefD := ⟨("_law_any_part", none), "_law_any_part", "_law_any_part", defArgs (top 65), defBody (top 65), defScope (top 65), [], []⟩
def dd_law_curve : He.DefD := ⟨("_law_curve", none), "_law_curve", "_law_curve", defArgs (top 66), defBody (top 66), defScope (top 66), [], []⟩
def dd_law_timing : He.DefD := ⟨("_law_timing", none), "_law_timing", "_law_timing", defArgs (top 67), defBody (top 67), defScope (top 67), [], []⟩
def dd_law_added : He.DefD := ⟨("_law_added", none), "_law_added", "_law_added", defArgs (top 68), defBody (top 68), defScope (top 68), [], []⟩
def dd_law_product : He.DefD := ⟨("_law_product", none), "_law_product", "_law_product", defArgs (top 69), defBody (top 69), defScope (top 69), [], []⟩
def dd_law_is_less : He.DefD := ⟨("_law_is_less", none), "_law_is_less", "_law_is_less", defArgs (top 70), defBody (top 70), defScope (top 70), [], []⟩
def dd_law_most : He.DefD := ⟨("_law_most", none), "_law_most", "_law_most", defArgs (top 71), defBody (top 71), defScope (top 71), [], []⟩
def dd_law_least : He.DefD := ⟨("_law_least", none), "_law_least", "_law_least", defArgs (top 72), defBody (top 72), defScope (top 72), [], []⟩
def dd_law_ends : He.DefD := ⟨("_law_ends", none), "_law_ends", "_law_ends", defArgs (top 73), defBody (top 73), defScope (top 73), [], []⟩
def dd_law_phase : He.DefD := ⟨("_law_phase", none), "_law_phase", "_law_phase", defArgs (top 74), defBody (top 74), defScope (top 74), [], []⟩
def dd_law_overall : He.DefD := ⟨("_law_overall", none), "_law_overall", "_law_overall", defArgs (top 75), defBody (top 75), defScope (top 75), [], []⟩
def dd_law_simple : He.DefD := ⟨("_law_simple", none), "_law_simple", "_law_simple", defArgs (top 76), defBody (top 76), defScope (top 76), [], []⟩
def dd_law_moments : He.DefD := ⟨("_law_moments", none), "_law_moments", "_law_moments", defArgs (top 77), defBody (top 77), defScope (top 77), [], []⟩
def dd_law_lengthy : He.DefD := ⟨("_law_lengthy", none), "_law_lengthy", "_law_lengthy", defArgs (top 78), defBody (top 78), defScope (top 78), [], []⟩
def dd_law_shares_right : He.DefD := ⟨("_law_shares_right", none), "_law_shares_right", "_law_shares_right", defArgs (top 79), defBody (top 79), defScope (top 79), [], []⟩
def dd_law_right : He.DefD := ⟨("_law_right", none), "_law_right", "_law_right", defArgs (top 80), defBody (top 80), defScope (top 80), [], []⟩
def dd_law_by_hand : He.DefD := ⟨("_law_by_hand", none), "_law_by_hand", "_law_by_hand", defArgs (top 81), defBody (top 81), defScope (top 81), [], []⟩
def dd_law : He.DefD := ⟨("law", none), "law", "law", defArgs (top 82), defBody (top 82), defScope (top 82), [], []⟩
def fnL : List He.DefD := [dd_is_whole, dd_divisor, dd_is_fraction, dd_is_endless, dd_ratio, dd_plus, dd_minus, dd_product, dd_quotient, dd_less, dd_lesser, dd_greater, dd_floor_of, dd_part_of, dd_as_fraction, dd_is_point, dd_is_curve, dd_spread, dd_settled_points, dd_linear_value, dd_cubic_value, dd_steps_value, dd_led, dd_is_amount, dd_is_timing, dd_length_of, dd_active_length, dd_all_edges, dd_phase_of, dd_active_time, dd_overall_of, dd_simple_of, dd_iteration_of, dd_direction_of, dd_told_in, dd_check_timing, dd_told_at, dd_law_cell_at, dd_law_mixed, dd_law_source, dd_law_next, dd_law_one, dd_law_divisor, dd_law_ratio, dd_law_plus, dd_law_minus, dd_law_times, dd_law_over, dd_law_less, dd_law_part, dd_law_any_part, dd_law_curve, dd_law_timing, dd_law_added, dd_law_product, dd_law_is_less, dd_law_most, dd_law_least, dd_law_ends, dd_law_phase, dd_law_overall, dd_law_simple, dd_law_moments, dd_law_lengthy, dd_law_shares_right, dd_law_right, dd_law_by_hand, dd_law]
def faL : List He.Fa := (Tc.fns.map He.Fa.glo) ++ bltNames.map He.Fa.free
abbrev hkL : PySem.W.Hook := He.hookX 5 faL fnL [] [] (consB cs_all)
def obL (s : PySem.W.SharedT) : He.AlX := He.obsX 5 faL fnL [] [] (consB cs_all) (HandSHeadRun.getT s)
theorem obL_eq (s : PySem.W.SharedT) : obL s = hkL.obs s.abs := He.obsX_eq (HandSHeadRun.getT_eq s)
def nm0 : List PySem.Str := [("CueError" : PySem.Str), ("NoTiming" : PySem.Str), ("NoNumber" : PySem.Str), ("NoSign" : PySem.Str), ("ENDLESS" : PySem.Str), ("ZERO" : PySem.Str), ("ONE" : PySem.Str), ("is_whole" : PySem.Str), ("divisor" : PySem.Str), ("is_fraction" : PySem.Str), ("is_endless" : PySem.Str), ("ratio" : PySem.Str), ("plus" : PySem.Str), ("minus" : PySem.Str), ("product" : PySem.Str), ("quotient" : PySem.Str), ("less" : PySem.Str), ("lesser" : PySem.Str), ("greater" : PySem.Str), ("floor_of" : PySem.Str), ("part_of" : PySem.Str), ("as_fraction" : PySem.Str), ("WHERES" : PySem.Str), ("is_point" : PySem.Str), ("is_curve" : PySem.Str), ("spread" : PySem.Str), ("settled_points" : PySem.Str), ("linear_value" : PySem.Str), ("cubic_value" : PySem.Str), ("steps_value" : PySem.Str)]
def nm1 : List PySem.Str := [("led" : PySem.Str), ("FILLS" : PySem.Str), ("WAYS" : PySem.Str), ("is_amount" : PySem.Str), ("is_timing" : PySem.Str), ("length_of" : PySem.Str), ("active_length" : PySem.Str), ("all_edges" : PySem.Str), ("phase_of" : PySem.Str), ("active_time" : PySem.Str), ("overall_of" : PySem.Str), ("simple_of" : PySem.Str), ("iteration_of" : PySem.Str), ("direction_of" : PySem.Str), ("told_in" : PySem.Str), ("check_timing" : PySem.Str), ("told_at" : PySem.Str), ("_law_cell_at" : PySem.Str), ("_law_mixed" : PySem.Str), ("_law_source" : PySem.Str), ("_law_next" : PySem.Str), ("_law_one" : PySem.Str), ("_law_divisor" : PySem.Str), ("_law_ratio" : PySem.Str), ("_law_plus" : PySem.Str), ("_law_minus" : PySem.Str), ("_law_times" : PySem.Str), ("_law_over" : PySem.Str), ("_law_less" : PySem.Str), ("_law_part" : PySem.Str)]
def nm2 : List PySem.Str := [("_law_any_part" : PySem.Str), ("_law_curve" : PySem.Str), ("_law_timing" : PySem.Str), ("_law_added" : PySem.Str), ("_law_product" : PySem.Str), ("_law_is_less" : PySem.Str), ("_law_most" : PySem.Str), ("_law_least" : PySem.Str), ("_law_ends" : PySem.Str), ("_law_phase" : PySem.Str), ("_law_overall" : PySem.Str), ("_law_simple" : PySem.Str), ("_law_moments" : PySem.Str), ("_law_lengthy" : PySem.Str), ("_law_shares_right" : PySem.Str), ("_law_right" : PySem.Str), ("_law_by_hand" : PySem.Str)]
abbrev nmL : List PySem.Str := nm0 ++ nm1 ++ nm2
abbrev RL : PySem.W.OpenRow := PySem.W.OpenLaw.row PySem.Challenge.rw_framecues_k12_progress_of_all_lengths
theorem runL (w : World) : HandSHeadRun.RunEq RL (PySem.W.view RL.prog [82]) hkL obL 4000 nmL w := by
  intro os
  kernel_rfl

end Fq.La

namespace Fq.La
open PySem PySem.Spec PyProof.Rows L2 Fq
/-! ### the numbers, on data -/
theorem fn_G (k : Nat) : (GmD k).fn = runD k := rfl
theorem con_G (k j : Nat) : (GmD k).con j = conD j := rfl
theorem pat_G (k : Nat) : (GmD k).pat = patD := rfl
theorem r_is_whole {K : Nat} (hK : 1 ≤ K) (i : Int) (h : MH) : runD K i_is_whole [.int i] h = some (.bl true, h) := by
  obtain ⟨k, rfl⟩ : ∃ k, K = k + 1 := ⟨K - 1, by omega⟩
  rw [run_is_whole _ _ _ rfl]
  simp only [b_is_whole, fn_G, con_G, pat_G, ev, evs, evAnd, evOr, evTests, asgT, asgTs, evIt, exe, exes, outD, startD, ob, om, g_b, b_add, b_sub, u_abs, u_int, u_intb, u_max, u_min, c_lt, c_le, c_gt, c_ge, c_eq, c_ne, eqD_int, eqD_bl, ix_0, ix_1, ix_2, fr_0, fr_1, isN_non, isN_fr, isN_e, isN_str, isN_int, isN_tup, lD_none, lD_some, oD_none, oD_some, isAbs, partR, tgS, tgSs, wipeD, List.map_cons, List.map_nil, List.length_cons, List.length_nil, List.cons_append, List.nil_append, List.append_nil, List.getElem?_cons_zero, List.getElem?_cons_succ, List.set_cons_zero, List.set_cons_succ, List.replicate_succ, List.replicate_zero, Nat.zero_add, Nat.add_sub_cancel, Nat.reduceAdd, Nat.reduceSub, Bool.not_true, Bool.not_false, Bool.false_eq_true, if_false]
  rfl
theorem r_divisor {K : Nat} (hK : 1 ≤ K) (a b : Nat) (h : MH) : runD K i_divisor [.int a, .int b] h = some (.int (Nat.gcd a b), h) := by
  obtain ⟨k, rfl⟩ : ∃ k, K = k + 1 := ⟨K - 1, by omega⟩
  rw [run_divisor _ _ _ rfl]
  simp only [b_divisor, fn_G, con_G, pat_G, ev, evs, evAnd, evOr, evTests, asgT, asgTs, evIt, exe, exes, outD, startD, ob, om, g_b, b_add, b_sub, u_abs, u_int, u_intb, u_max, u_min, c_lt, c_le, c_gt, c_ge, c_eq, c_ne, eqD_int, eqD_bl, ix_0, ix_1, ix_2, fr_0, fr_1, isN_non, isN_fr, isN_e, isN_str, isN_int, isN_tup, lD_none, lD_some, oD_none, oD_some, isAbs, partR, tgS, tgSs, wipeD, List.map_cons, List.map_nil, List.length_cons, List.length_nil, List.cons_append, List.nil_append, List.append_nil, List.getElem?_cons_zero, List.getElem?_cons_succ, List.set_cons_zero, List.set_cons_succ, List.replicate_succ, List.replicate_zero, Nat.zero_add, Nat.add_sub_cancel, Nat.reduceAdd, Nat.reduceSub, Bool.not_true, Bool.not_false, Bool.false_eq_true, if_false]
  rw [gcd_loop (fun a b h => by simp only [fn_G, con_G, pat_G, ev, evs, evAnd, evOr, evTests, asgT, asgTs, evIt, exe, exes, outD, startD, ob, om, g_b, b_add, b_sub, u_abs, u_int, u_intb, u_max, u_min, c_lt, c_le, c_gt, c_ge, c_eq, c_ne, eqD_int, eqD_bl, ix_0, ix_1, ix_2, fr_0, fr_1, isN_non, isN_fr, isN_e, isN_str, isN_int, isN_tup, lD_none, lD_some, oD_none, oD_some, isAbs, partR, tgS, tgSs, wipeD, List.map_cons, List.map_nil, List.length_cons, List.length_nil, List.cons_append, List.nil_append, List.append_nil, List.getElem?_cons_zero, List.getElem?_cons_succ, List.set_cons_zero, List.set_cons_succ, List.replicate_succ, List.replicate_zero, Nat.zero_add, Nat.add_sub_cancel, Nat.reduceAdd, Nat.reduceSub, Bool.not_true, Bool.not_false, Bool.false_eq_true, if_false]) (fun a b h hb => by simp only [fn_G, con_G, pat_G, ev, evs, evAnd, evOr, evTests, asgT, asgTs, evIt, exe, exes, outD, startD, ob, om, g_b, b_add, b_sub, u_abs, u_int, u_intb, u_max, u_min, c_lt, c_le, c_gt, c_ge, c_eq, c_ne, eqD_int, eqD_bl, ix_0, ix_1, ix_2, fr_0, fr_1, isN_non, isN_fr, isN_e, isN_str, isN_int, isN_tup, lD_none, lD_some, oD_none, oD_some, isAbs, partR, tgS, tgSs, wipeD, List.map_cons, List.map_nil, List.length_cons, List.length_nil, List.cons_append, List.nil_append, List.append_nil, List.getElem?_cons_zero, List.getElem?_cons_succ, List.set_cons_zero, List.set_cons_succ, List.replicate_succ, List.replicate_zero, Nat.zero_add, Nat.add_sub_cancel, Nat.reduceAdd, Nat.reduceSub, Bool.not_true, Bool.not_false, Bool.false_eq_true, if_false, b_mod _ hb]) _ a b h (by show b < (b : Int).toNat + 1; omega)]
  simp only [fn_G, con_G, pat_G, ev, evs, evAnd, evOr, evTests, asgT, asgTs, evIt, exe, exes, outD, startD, ob, om, g_b, b_add, b_sub, u_abs, u_int, u_intb, u_max, u_min, c_lt, c_le, c_gt, c_ge, c_eq, c_ne, eqD_int, eqD_bl, ix_0, ix_1, ix_2, fr_0, fr_1, isN_non, isN_fr, isN_e, isN_str, isN_int, isN_tup, lD_none, lD_some, oD_none, oD_some, isAbs, partR, tgS, tgSs, wipeD, List.map_cons, List.map_nil, List.length_cons, List.length_nil, List.cons_append, List.nil_append, List.append_nil, List.getElem?_cons_zero, List.getElem?_cons_succ, List.set_cons_zero, List.set_cons_succ, List.replicate_succ, List.replicate_zero, Nat.zero_add, Nat.add_sub_cancel, Nat.reduceAdd, Nat.reduceSub, Bool.not_true, Bool.not_false, Bool.false_eq_true, if_false]
theorem r_ratio {K : Nat} (hK : 2 ≤ K) (p q : Int) (h : MH) (hq : q ≠ 0) (hs : q.natAbs < 2 ^ 9000) : runD K i_ratio [.int p, .int q] h = some (frR (Rat.divInt p q), h) := by
  obtain ⟨k, rfl⟩ : ∃ k, K = k + 1 := ⟨K - 1, by omega⟩
  rw [run_ratio _ _ _ rfl]
  have main : ∀ (p : Int) (q : Nat) (h : MH), 0 < q → q < 2 ^ 9000 → (runD k i_divisor [.int (p.natAbs : Int), .int q] h) = some (.int (Nat.gcd p.natAbs q), h) ∧ binD .fdiv (.int p) (.int (Nat.gcd p.natAbs q)) h = some (.int (mkRat p q).num, h) ∧ binD .fdiv (.int q) (.int (Nat.gcd p.natAbs q)) h = some (.int (mkRat p q).den, h) := by
    intro p q h l ls
    have g := Nat.gcd_le_right p.natAbs l
    have g0 := Nat.gcd_pos_of_pos_right p.natAbs l
    refine ⟨r_divisor (by omega) .., ?_, ?_⟩
    · rw [b_div h (by omega) (by omega), (ratio_pos p q l).1]
    · rw [b_div h (by omega) (by omega), (ratio_pos p q l).2]
  by_cases hn : q < 0
  · obtain ⟨q', rfl⟩ : ∃ q' : Nat, q = -(q' : Int) := ⟨q.natAbs, by omega⟩
    obtain ⟨m1, m2, m3⟩ := main (-p) q' h (by omega) (by omega)
    rw [← Rat.neg_divInt_neg, Int.neg_neg, Rat.divInt_ofNat]
    simp only [b_ratio, fn_G, con_G, pat_G, ev, evs, evAnd, evOr, evTests, asgT, asgTs, evIt, exe, exes, outD, startD, ob, om, g_b, b_add, b_sub, u_abs, u_int, u_intb, u_max, u_min, c_lt, c_le, c_gt, c_ge, c_eq, c_ne, eqD_int, eqD_bl, ix_0, ix_1, ix_2, fr_0, fr_1, isN_non, isN_fr, isN_e, isN_str, isN_int, isN_tup, lD_none, lD_some, oD_none, oD_some, isAbs, partR, tgS, tgSs, wipeD, List.map_cons, List.map_nil, List.length_cons, List.length_nil, List.cons_append, List.nil_append, List.append_nil, List.getElem?_cons_zero, List.getElem?_cons_succ, List.set_cons_zero, List.set_cons_succ, List.replicate_succ, List.replicate_zero, Nat.zero_add, Nat.add_sub_cancel, Nat.reduceAdd, Nat.reduceSub, Bool.not_true, Bool.not_false, Bool.false_eq_true, if_false, hn, Int.zero_sub, Int.neg_neg, decide_true, m1, m2, m3]
    rfl
  · obtain ⟨q', rfl⟩ : ∃ q' : Nat, q = (q' : Int) := ⟨q.natAbs, by omega⟩
    obtain ⟨m1, m2, m3⟩ := main p q' h (by omega) (by omega)
    rw [Rat.divInt_ofNat]
    simp only [b_ratio, fn_G, con_G, pat_G, ev, evs, evAnd, evOr, evTests, asgT, asgTs, evIt, exe, exes, outD, startD, ob, om, g_b, b_add, b_sub, u_abs, u_int, u_intb, u_max, u_min, c_lt, c_le, c_gt, c_ge, c_eq, c_ne, eqD_int, eqD_bl, ix_0, ix_1, ix_2, fr_0, fr_1, isN_non, isN_fr, isN_e, isN_str, isN_int, isN_tup, lD_none, lD_some, oD_none, oD_some, isAbs, partR, tgS, tgSs, wipeD, List.map_cons, List.map_nil, List.length_cons, List.length_nil, List.cons_append, List.nil_append, List.append_nil, List.getElem?_cons_zero, List.getElem?_cons_succ, List.set_cons_zero, List.set_cons_succ, List.replicate_succ, List.replicate_zero, Nat.zero_add, Nat.add_sub_cancel, Nat.reduceAdd, Nat.reduceSub, Bool.not_true, Bool.not_false, Bool.false_eq_true, if_false, hn, decide_false, m1, m2, m3]
    rfl
theorem z_endless {K : Nat} (hK : 1 ≤ K) (a : Rat) (h : MH) : runD K i_is_endless [frR a] h = some (.bl false, h) := by
  obtain ⟨k, rfl⟩ : ∃ k, K = k + 1 := ⟨K - 1, by omega⟩
  rw [run_is_endless _ _ _ rfl]
  simp only [b_is_endless, fn_G, con_G, pat_G, ev, evs, evAnd, evOr, evTests, asgT, asgTs, evIt, exe, exes, outD, startD, ob, om, g_b, b_add, b_sub, u_abs, u_int, u_intb, u_max, u_min, c_lt, c_le, c_gt, c_ge, c_eq, c_ne, eqD_int, eqD_bl, ix_0, ix_1, ix_2, fr_0, fr_1, isN_non, isN_fr, isN_e, isN_str, isN_int, isN_tup, lD_none, lD_some, oD_none, oD_some, isAbs, partR, tgS, tgSs, wipeD, List.map_cons, List.map_nil, List.length_cons, List.length_nil, List.cons_append, List.nil_append, List.append_nil, List.getElem?_cons_zero, List.getElem?_cons_succ, List.set_cons_zero, List.set_cons_succ, List.replicate_succ, List.replicate_zero, Nat.zero_add, Nat.add_sub_cancel, Nat.reduceAdd, Nat.reduceSub, Bool.not_true, Bool.not_false, Bool.false_eq_true, if_false]
  rfl
theorem r_is_fraction {K : Nat} (hK : 2 ≤ K) (a : Rat) (h : MH) : runD K i_is_fraction [frR a] h = some (.bl true, h) := by
  obtain ⟨k, rfl⟩ : ∃ k, K = k + 1 := ⟨K - 1, by omega⟩
  rw [run_is_fraction _ _ _ rfl]
  have e : (L2.kitB (tyn (frR a)) "tuple").map D.bl = some (.bl true) := by rfl
  have e2 : biD .len [frR a] h = some (.int 2, h) := rfl
  have d1 : (1 : Int) ≤ a.den := by have := a.den_pos; omega
  have g : Nat.gcd a.num.natAbs a.den = 1 := a.reduced
  have q : (L2.kitB (tyn (frR a)) "tuple") = some true := rfl
  simp only [b_is_fraction, fn_G, con_G, pat_G, ev, evs, evAnd, evOr, evTests, asgT, asgTs, evIt, exe, exes, outD, startD, ob, om, g_b, b_add, b_sub, u_abs, u_int, u_intb, u_max, u_min, c_lt, c_le, c_gt, c_ge, c_eq, c_ne, eqD_int, eqD_bl, ix_0, ix_1, ix_2, fr_0, fr_1, isN_non, isN_fr, isN_e, isN_str, isN_int, isN_tup, lD_none, lD_some, oD_none, oD_some, isAbs, partR, tgS, tgSs, wipeD, List.map_cons, List.map_nil, List.length_cons, List.length_nil, List.cons_append, List.nil_append, List.append_nil, List.getElem?_cons_zero, List.getElem?_cons_succ, List.set_cons_zero, List.set_cons_succ, List.replicate_succ, List.replicate_zero, Nat.zero_add, Nat.add_sub_cancel, Nat.reduceAdd, Nat.reduceSub, Bool.not_true, Bool.not_false, Bool.false_eq_true, if_false, q, e2, r_is_whole (show 1 ≤ k by omega), r_divisor (show 1 ≤ k by omega), d1, g, decide_true, decide_false, ne_eq, not_true_eq_false]
  rfl
theorem r_as_fraction {K : Nat} (hK : 1 ≤ K) (i : Int) (h : MH) : runD K i_as_fraction [.int i] h = some (frR i, h) := by
  obtain ⟨k, rfl⟩ : ∃ k, K = k + 1 := ⟨K - 1, by omega⟩
  rw [run_as_fraction _ _ _ rfl]
  simp only [b_as_fraction, fn_G, con_G, pat_G, ev, evs, evAnd, evOr, evTests, asgT, asgTs, evIt, exe, exes, outD, startD, ob, om, g_b, b_add, b_sub, u_abs, u_int, u_intb, u_max, u_min, c_lt, c_le, c_gt, c_ge, c_eq, c_ne, eqD_int, eqD_bl, ix_0, ix_1, ix_2, fr_0, fr_1, isN_non, isN_fr, isN_e, isN_str, isN_int, isN_tup, lD_none, lD_some, oD_none, oD_some, isAbs, partR, tgS, tgSs, wipeD, List.map_cons, List.map_nil, List.length_cons, List.length_nil, List.cons_append, List.nil_append, List.append_nil, List.getElem?_cons_zero, List.getElem?_cons_succ, List.set_cons_zero, List.set_cons_succ, List.replicate_succ, List.replicate_zero, Nat.zero_add, Nat.add_sub_cancel, Nat.reduceAdd, Nat.reduceSub, Bool.not_true, Bool.not_false, Bool.false_eq_true, if_false]
  rfl
theorem den9 {a b : Rat} {n m : Nat} (ha : Sz n a) (hb : Sz m b) (l : n + m ≤ 9000) : (a.den : Int) * b.den ≠ 0 ∧ ((a.den : Int) * b.den).natAbs < 2 ^ 9000 := by
  refine ⟨by have := a.den_nz; have := b.den_nz; exact Int.mul_ne_zero (by omega) (by omega), ?_⟩
  rw [Int.natAbs_mul]
  exact Nat.lt_of_lt_of_le (mul_pow_lt ha.2 hb.2) (Nat.pow_le_pow_right (by decide) l)
theorem muls {a b : Rat} {n m : Nat} (ha : Sz n a) (hb : Sz m b) (l : n + m ≤ 9000) (h : MH) :
    binD .mul (.int a.num) (.int b.num) h = some (.int (a.num * b.num), h) ∧ binD .mul (.int a.num) (.int b.den) h = some (.int (a.num * b.den), h) ∧
    binD .mul (.int b.num) (.int a.den) h = some (.int (b.num * a.den), h) ∧ binD .mul (.int a.den) (.int b.den) h = some (.int ((a.den : Int) * b.den), h) ∧
    binD .mul (.int a.den) (.int b.num) h = some (.int ((a.den : Int) * b.num), h) :=
  ⟨b_mul h (mulOk_of ha.1 hb.1 (by omega)), b_mul h (mulOk_of ha.1 (j := b.den) hb.2 (by omega)), b_mul h (mulOk_of hb.1 (j := a.den) ha.2 (by omega)), b_mul h (mulOk_of (i := a.den) (j := b.den) ha.2 hb.2 (by omega)), b_mul h (mulOk_of (i := a.den) ha.2 hb.1 (by omega))⟩
theorem r_plus {K : Nat} (hK : 3 ≤ K) {a b : Rat} {n m : Nat} (ha : Sz n a) (hb : Sz m b) (l : n + m ≤ 9000) (h : MH) : runD K i_plus [frR a, frR b] h = some (frR (a + b), h) := by
  obtain ⟨k, rfl⟩ : ∃ k, K = k + 1 := ⟨K - 1, by omega⟩
  rw [run_plus _ _ _ rfl]
  obtain ⟨m1, m2, m3, m4, m5⟩ := muls ha hb l h
  obtain ⟨d1, d2⟩ := den9 ha hb l
  simp only [b_plus, fn_G, con_G, pat_G, ev, evs, evAnd, evOr, evTests, asgT, asgTs, evIt, exe, exes, outD, startD, ob, om, g_b, b_add, b_sub, u_abs, u_int, u_intb, u_max, u_min, c_lt, c_le, c_gt, c_ge, c_eq, c_ne, eqD_int, eqD_bl, ix_0, ix_1, ix_2, fr_0, fr_1, isN_non, isN_fr, isN_e, isN_str, isN_int, isN_tup, lD_none, lD_some, oD_none, oD_some, isAbs, partR, tgS, tgSs, wipeD, List.map_cons, List.map_nil, List.length_cons, List.length_nil, List.cons_append, List.nil_append, List.append_nil, List.getElem?_cons_zero, List.getElem?_cons_succ, List.set_cons_zero, List.set_cons_succ, List.replicate_succ, List.replicate_zero, Nat.zero_add, Nat.add_sub_cancel, Nat.reduceAdd, Nat.reduceSub, Bool.not_true, Bool.not_false, Bool.false_eq_true, if_false, z_endless (show 1 ≤ k by omega), m1, m2, m3, m4, m5, r_ratio (show 2 ≤ k by omega) _ _ h d1 d2, add_frR]
theorem r_minus {K : Nat} (hK : 3 ≤ K) {a b : Rat} {n m : Nat} (ha : Sz n a) (hb : Sz m b) (l : n + m ≤ 9000) (h : MH) : runD K i_minus [frR a, frR b] h = some (frR (a - b), h) := by
  obtain ⟨k, rfl⟩ : ∃ k, K = k + 1 := ⟨K - 1, by omega⟩
  rw [run_minus _ _ _ rfl]
  obtain ⟨m1, m2, m3, m4, m5⟩ := muls ha hb l h
  obtain ⟨d1, d2⟩ := den9 ha hb l
  simp only [b_minus, fn_G, con_G, pat_G, ev, evs, evAnd, evOr, evTests, asgT, asgTs, evIt, exe, exes, outD, startD, ob, om, g_b, b_add, b_sub, u_abs, u_int, u_intb, u_max, u_min, c_lt, c_le, c_gt, c_ge, c_eq, c_ne, eqD_int, eqD_bl, ix_0, ix_1, ix_2, fr_0, fr_1, isN_non, isN_fr, isN_e, isN_str, isN_int, isN_tup, lD_none, lD_some, oD_none, oD_some, isAbs, partR, tgS, tgSs, wipeD, List.map_cons, List.map_nil, List.length_cons, List.length_nil, List.cons_append, List.nil_append, List.append_nil, List.getElem?_cons_zero, List.getElem?_cons_succ, List.set_cons_zero, List.set_cons_succ, List.replicate_succ, List.replicate_zero, Nat.zero_add, Nat.add_sub_cancel, Nat.reduceAdd, Nat.reduceSub, Bool.not_true, Bool.not_false, Bool.false_eq_true, if_false, z_endless (show 1 ≤ k by omega), m1, m2, m3, m4, m5, r_ratio (show 2 ≤ k by omega) _ _ h d1 d2, sub_frR]
theorem frR0 : (D.tup [.int 0, .int 1]) = frR 0 := rfl
theorem frR1 : (D.tup [.int 1, .int 1]) = frR 1 := rfl
theorem r_product {K : Nat} (hK : 3 ≤ K) {a b : Rat} {n m : Nat} (ha : Sz n a) (hb : Sz m b) (l : n + m ≤ 9000) (h : MH) : runD K i_product [frR a, frR b] h = some (frR (a * b), h) := by
  obtain ⟨k, rfl⟩ : ∃ k, K = k + 1 := ⟨K - 1, by omega⟩
  rw [run_product _ _ _ rfl]
  obtain ⟨m1, m2, m3, m4, m5⟩ := muls ha hb l h
  obtain ⟨d1, d2⟩ := den9 ha hb l
  have z : conD c_ZERO = frR 0 := rfl
  have i : cmpD .isin h (frR 0) (.tup [frR a, frR b]) = some (decide (a = 0) || decide (b = 0)) := by
    have e1 := eqD_fr h a 0
    have e2 := eqD_fr h b 0
    have f1 : PyData.eqv (.tuple [.int a.num, .int a.den]) (.tuple [.int (0 : Rat).num, .int (0 : Rat).den]) = decide (a = 0) := Option.some.inj e1
    have f2 : PyData.eqv (.tuple [.int b.num, .int b.den]) (.tuple [.int (0 : Rat).num, .int (0 : Rat).den]) = decide (b = 0) := Option.some.inj e2
    show some (PyData.eqv (.tuple [.int a.num, .int a.den]) (.tuple [.int (0 : Rat).num, .int (0 : Rat).den]) || (PyData.eqv (.tuple [.int b.num, .int b.den]) (.tuple [.int (0 : Rat).num, .int (0 : Rat).den]) || false)) = _
    rw [f1, f2, Bool.or_false]
  have lim2 : (0 + 1 + 1 ≤ LIM) = True := by simp [LIM]
  by_cases ea : a = 0
  · subst ea
    simp only [b_product, fn_G, con_G, pat_G, ev, evs, evAnd, evOr, evTests, asgT, asgTs, evIt, exe, exes, outD, startD, ob, om, g_b, b_add, b_sub, u_abs, u_int, u_intb, u_max, u_min, c_lt, c_le, c_gt, c_ge, c_eq, c_ne, eqD_int, eqD_bl, ix_0, ix_1, ix_2, fr_0, fr_1, isN_non, isN_fr, isN_e, isN_str, isN_int, isN_tup, lD_none, lD_some, oD_none, oD_some, isAbs, partR, tgS, tgSs, wipeD, List.map_cons, List.map_nil, List.length_cons, List.length_nil, List.cons_append, List.nil_append, List.append_nil, List.getElem?_cons_zero, List.getElem?_cons_succ, List.set_cons_zero, List.set_cons_succ, List.replicate_succ, List.replicate_zero, Nat.zero_add, Nat.add_sub_cancel, Nat.reduceAdd, Nat.reduceSub, Bool.not_true, Bool.not_false, Bool.false_eq_true, if_false, z, i, lim2, if_true, decide_true, Bool.true_or, Rat.zero_mul]
  · by_cases eb : b = 0
    · subst eb
      simp only [b_product, fn_G, con_G, pat_G, ev, evs, evAnd, evOr, evTests, asgT, asgTs, evIt, exe, exes, outD, startD, ob, om, g_b, b_add, b_sub, u_abs, u_int, u_intb, u_max, u_min, c_lt, c_le, c_gt, c_ge, c_eq, c_ne, eqD_int, eqD_bl, ix_0, ix_1, ix_2, fr_0, fr_1, isN_non, isN_fr, isN_e, isN_str, isN_int, isN_tup, lD_none, lD_some, oD_none, oD_some, isAbs, partR, tgS, tgSs, wipeD, List.map_cons, List.map_nil, List.length_cons, List.length_nil, List.cons_append, List.nil_append, List.append_nil, List.getElem?_cons_zero, List.getElem?_cons_succ, List.set_cons_zero, List.set_cons_succ, List.replicate_succ, List.replicate_zero, Nat.zero_add, Nat.add_sub_cancel, Nat.reduceAdd, Nat.reduceSub, Bool.not_true, Bool.not_false, Bool.false_eq_true, if_false, z, i, lim2, if_true, decide_true, Bool.or_true, Rat.mul_zero]
    · simp only [b_product, fn_G, con_G, pat_G, ev, evs, evAnd, evOr, evTests, asgT, asgTs, evIt, exe, exes, outD, startD, ob, om, g_b, b_add, b_sub, u_abs, u_int, u_intb, u_max, u_min, c_lt, c_le, c_gt, c_ge, c_eq, c_ne, eqD_int, eqD_bl, ix_0, ix_1, ix_2, fr_0, fr_1, isN_non, isN_fr, isN_e, isN_str, isN_int, isN_tup, lD_none, lD_some, oD_none, oD_some, isAbs, partR, tgS, tgSs, wipeD, List.map_cons, List.map_nil, List.length_cons, List.length_nil, List.cons_append, List.nil_append, List.append_nil, List.getElem?_cons_zero, List.getElem?_cons_succ, List.set_cons_zero, List.set_cons_succ, List.replicate_succ, List.replicate_zero, Nat.zero_add, Nat.add_sub_cancel, Nat.reduceAdd, Nat.reduceSub, Bool.not_true, Bool.not_false, Bool.false_eq_true, if_false, z, i, lim2, if_true, ea, eb, decide_false, Bool.or_false, z_endless (show 1 ≤ k by omega), m1, m2, m3, m4, m5, r_ratio (show 2 ≤ k by omega) _ _ h d1 d2, mul_frR]
theorem r_less {K : Nat} (hK : 2 ≤ K) {a b : Rat} {n m : Nat} (ha : Sz n a) (hb : Sz m b) (l : n + m ≤ 9000) (h : MH) : runD K i_less [frR a, frR b] h = some (.bl (decide (a < b)), h) := by
  obtain ⟨k, rfl⟩ : ∃ k, K = k + 1 := ⟨K - 1, by omega⟩
  rw [run_less _ _ _ rfl]
  obtain ⟨m1, m2, m3, m4, m5⟩ := muls ha hb l h
  simp only [b_less, fn_G, con_G, pat_G, ev, evs, evAnd, evOr, evTests, asgT, asgTs, evIt, exe, exes, outD, startD, ob, om, g_b, b_add, b_sub, u_abs, u_int, u_intb, u_max, u_min, c_lt, c_le, c_gt, c_ge, c_eq, c_ne, eqD_int, eqD_bl, ix_0, ix_1, ix_2, fr_0, fr_1, isN_non, isN_fr, isN_e, isN_str, isN_int, isN_tup, lD_none, lD_some, oD_none, oD_some, isAbs, partR, tgS, tgSs, wipeD, List.map_cons, List.map_nil, List.length_cons, List.length_nil, List.cons_append, List.nil_append, List.append_nil, List.getElem?_cons_zero, List.getElem?_cons_succ, List.set_cons_zero, List.set_cons_succ, List.replicate_succ, List.replicate_zero, Nat.zero_add, Nat.add_sub_cancel, Nat.reduceAdd, Nat.reduceSub, Bool.not_true, Bool.not_false, Bool.false_eq_true, if_false, z_endless (show 1 ≤ k by omega), m1, m2, m3, m4, m5, lt_frR]
theorem Sz1 : Sz 1 (1 : Rat) := ⟨by decide, by decide⟩
theorem Sz0 : Sz 1 (0 : Rat) := ⟨by decide, by decide⟩
theorem Sz3 : Sz 2 (3 : Rat) := ⟨by decide, by decide⟩
theorem Sz2 : Sz 2 (2 : Rat) := ⟨by decide, by decide⟩
theorem con0 : conD c_ZERO = frR 0 := rfl
theorem con1 : conD c_ONE = frR 1 := rfl
theorem s60 {q : Int} (h : q.natAbs < 2 ^ 60) : q.natAbs < 2 ^ 9000 := Nat.lt_of_lt_of_le h (Nat.pow_le_pow_right (by decide) (by decide))

/-! ### what the law draws -/
def scrD (ns : List Int) : D := .frl (ns.map .int)
theorem b_mod' (i j : Int) (h : MH) (hj : 0 < j) : binD .mod (.int i) (.int j) h = some (.int (i % j), h) := b_mod h hj
theorem r_law_mixed {K : Nat} (hK : 1 ≤ K) (c t : Int) (h : MH) : ∃ v : Int, runD K i_law_mixed [.int c, .int t] h = some (.int v, h) := by
  obtain ⟨k, rfl⟩ : ∃ k, K = k + 1 := ⟨K - 1, by omega⟩
  rw [run_law_mixed _ _ _ rfl]
  have m0 : ∀ c : Int, binD .fdiv (.int c) (.int 2147483629) h = some (.int (c / 2147483629), h) := fun c => b_div h (by decide) (Nat.lt_of_lt_of_le (by decide : (2147483629 : Int).natAbs < 2 ^ 32) (Nat.pow_le_pow_right (by decide) (by decide)))
  have m1 : ∀ c : Int, binD .mul (.int c) (.int 30011) h = some (.int (c * 30011), h) := fun c => b_mul h (mulOk_r (by decide))
  have m2 : ∀ c : Int, binD .mul (.int 69621) (.int c) h = some (.int (69621 * c), h) := fun c => b_mul h (mulOk_l (by decide))
  have m3 : ∀ c : Int, binD .mul (.int c) (.int 48271) h = some (.int (c * 48271), h) := fun c => b_mul h (mulOk_r (by decide))
  have m4 : ∀ c : Int, binD .fdiv (.int c) (.int 907) h = some (.int (c / 907), h) := fun c => b_div h (by decide) (Nat.lt_of_lt_of_le (by decide : (907 : Int).natAbs < 2 ^ 32) (Nat.pow_le_pow_right (by decide) (by decide)))
  have m5 : ∀ c : Int, binD .fdiv (.int c) (.int 1201) h = some (.int (c / 1201), h) := fun c => b_div h (by decide) (Nat.lt_of_lt_of_le (by decide : (1201 : Int).natAbs < 2 ^ 32) (Nat.pow_le_pow_right (by decide) (by decide)))
  have m6 : ∀ c x : Int, binD .mul (.int (c % 2147483629)) (.int x) h = some (.int (c % 2147483629 * x), h) := fun c x => b_mul h (mulOk_l (by have := Int.emod_nonneg c (show (2147483629 : Int) ≠ 0 by decide); have := Int.emod_lt_of_pos c (show (0 : Int) < 2147483629 by decide); omega))
  have m7 : ∀ c x : Int, binD .mul (.int (c % 2147483587)) (.int x) h = some (.int (c % 2147483587 * x), h) := fun c x => b_mul h (mulOk_l (by have := Int.emod_nonneg c (show (2147483587 : Int) ≠ 0 by decide); have := Int.emod_lt_of_pos c (show (0 : Int) < 2147483587 by decide); omega))
  simp only [b_law_mixed, fn_G, con_G, pat_G, ev, evs, evAnd, evOr, evTests, asgT, asgTs, evIt, exe, exes, outD, startD, ob, om, g_b, b_add, b_sub, u_abs, u_int, u_intb, u_max, u_min, c_lt, c_le, c_gt, c_ge, c_eq, c_ne, eqD_int, eqD_bl, ix_0, ix_1, ix_2, fr_0, fr_1, isN_non, isN_fr, isN_e, isN_str, isN_int, isN_tup, lD_none, lD_some, oD_none, oD_some, isAbs, partR, tgS, tgSs, wipeD, List.map_cons, List.map_nil, List.length_cons, List.length_nil, List.cons_append, List.nil_append, List.append_nil, List.getElem?_cons_zero, List.getElem?_cons_succ, List.set_cons_zero, List.set_cons_succ, List.replicate_succ, List.replicate_zero, Nat.zero_add, Nat.add_sub_cancel, Nat.reduceAdd, Nat.reduceSub, Bool.not_true, Bool.not_false, Bool.false_eq_true, if_false, m0, m1, m2, m3, m4, m5, m6, m7, b_mod' _ 2147483629 h (by decide), b_mod' _ 2147483587 h (by decide), b_mod' _ 2147483563 h (by decide)]
  exact ⟨_, rfl⟩
theorem r_law_cell {K : Nat} (hK : 1 ≤ K) (ns : List Int) (j : Nat) (h : MH) : ∃ v : Int, runD K i_law_cell_at [scrD ns, .int j] h = some (.int v, h) := by
  obtain ⟨k, rfl⟩ : ∃ k, K = k + 1 := ⟨K - 1, by omega⟩
  rw [run_law_cell_at _ _ _ rfl]
  have q : biD .len [scrD ns] h = some (.int ns.length, h) := by rw [u_len (xs := ns.map .int) rfl, List.length_map]
  by_cases l : j < ns.length
  · have e : idxD h (scrD ns) (.int j) = some (.int ns[j]) := by
      show atI (ns.map D.int) j = _
      exact atI_nat (by rw [List.getElem?_map, List.getElem?_eq_getElem l]; rfl)
    have l' : (j : Int) < ns.length := by omega
    refine ⟨ns[j], ?_⟩
    simp only [b_law_cell_at, fn_G, con_G, pat_G, ev, evs, evAnd, evOr, evTests, asgT, asgTs, evIt, exe, exes, outD, startD, ob, om, g_b, b_add, b_sub, u_abs, u_int, u_intb, u_max, u_min, c_lt, c_le, c_gt, c_ge, c_eq, c_ne, eqD_int, eqD_bl, ix_0, ix_1, ix_2, fr_0, fr_1, isN_non, isN_fr, isN_e, isN_str, isN_int, isN_tup, lD_none, lD_some, oD_none, oD_some, isAbs, partR, tgS, tgSs, wipeD, List.map_cons, List.map_nil, List.length_cons, List.length_nil, List.cons_append, List.nil_append, List.append_nil, List.getElem?_cons_zero, List.getElem?_cons_succ, List.set_cons_zero, List.set_cons_succ, List.replicate_succ, List.replicate_zero, Nat.zero_add, Nat.add_sub_cancel, Nat.reduceAdd, Nat.reduceSub, Bool.not_true, Bool.not_false, Bool.false_eq_true, if_false, q, e, l', decide_true]
  · have l' : ¬ (j : Int) < ns.length := by omega
    refine ⟨0, ?_⟩
    simp only [b_law_cell_at, fn_G, con_G, pat_G, ev, evs, evAnd, evOr, evTests, asgT, asgTs, evIt, exe, exes, outD, startD, ob, om, g_b, b_add, b_sub, u_abs, u_int, u_intb, u_max, u_min, c_lt, c_le, c_gt, c_ge, c_eq, c_ne, eqD_int, eqD_bl, ix_0, ix_1, ix_2, fr_0, fr_1, isN_non, isN_fr, isN_e, isN_str, isN_int, isN_tup, lD_none, lD_some, oD_none, oD_some, isAbs, partR, tgS, tgSs, wipeD, List.map_cons, List.map_nil, List.length_cons, List.length_nil, List.cons_append, List.nil_append, List.append_nil, List.getElem?_cons_zero, List.getElem?_cons_succ, List.set_cons_zero, List.set_cons_succ, List.replicate_succ, List.replicate_zero, Nat.zero_add, Nat.add_sub_cancel, Nat.reduceAdd, Nat.reduceSub, Bool.not_true, Bool.not_false, Bool.false_eq_true, if_false, q, l', decide_false]
theorem r_law_source {K : Nat} (hK : 2 ≤ K) (ns : List Int) (j : Nat) (h : MH) : ∃ v : Int, runD K i_law_source [scrD ns, .int j] h = some (.ref h.length, h ++ [[.int v, .int v, .int 0]]) := by
  obtain ⟨k, rfl⟩ : ∃ k, K = k + 1 := ⟨K - 1, by omega⟩
  rw [run_law_source _ _ _ rfl]
  have q : biD .len [scrD ns] h = some (.int ns.length, h) := by rw [u_len (xs := ns.map .int) rfl, List.length_map]
  have lim3 : (0 + 1 + 1 + 1 ≤ LIM) = True := by simp [LIM]
  by_cases l : j < ns.length
  · have e : idxD h (scrD ns) (.int j) = some (.int ns[j]) := by
      show atI (ns.map D.int) j = _
      exact atI_nat (by rw [List.getElem?_map, List.getElem?_eq_getElem l]; rfl)
    have l' : (j : Int) < ns.length := by omega
    refine ⟨ns[j], ?_⟩
    simp only [b_law_source, fn_G, con_G, pat_G, ev, evs, evAnd, evOr, evTests, asgT, asgTs, evIt, exe, exes, outD, startD, ob, om, g_b, b_add, b_sub, u_abs, u_int, u_intb, u_max, u_min, c_lt, c_le, c_gt, c_ge, c_eq, c_ne, eqD_int, eqD_bl, ix_0, ix_1, ix_2, fr_0, fr_1, isN_non, isN_fr, isN_e, isN_str, isN_int, isN_tup, lD_none, lD_some, oD_none, oD_some, isAbs, partR, tgS, tgSs, wipeD, List.map_cons, List.map_nil, List.length_cons, List.length_nil, List.cons_append, List.nil_append, List.append_nil, List.getElem?_cons_zero, List.getElem?_cons_succ, List.set_cons_zero, List.set_cons_succ, List.replicate_succ, List.replicate_zero, Nat.zero_add, Nat.add_sub_cancel, Nat.reduceAdd, Nat.reduceSub, Bool.not_true, Bool.not_false, Bool.false_eq_true, if_false, q, e, l', decide_true, lim3, if_true]
  · have l' : ¬ (j : Int) < ns.length := by omega
    obtain ⟨u, e1⟩ := r_law_cell (show 1 ≤ k by omega) ns 0 h
    obtain ⟨v, e2⟩ := r_law_mixed (show 1 ≤ k by omega) u (1000 + j) h
    have e1 : runD k i_law_cell_at [scrD ns, .int 0] h = some (.int u, h) := e1
    refine ⟨v, ?_⟩
    simp only [b_law_source, fn_G, con_G, pat_G, ev, evs, evAnd, evOr, evTests, asgT, asgTs, evIt, exe, exes, outD, startD, ob, om, g_b, b_add, b_sub, u_abs, u_int, u_intb, u_max, u_min, c_lt, c_le, c_gt, c_ge, c_eq, c_ne, eqD_int, eqD_bl, ix_0, ix_1, ix_2, fr_0, fr_1, isN_non, isN_fr, isN_e, isN_str, isN_int, isN_tup, lD_none, lD_some, oD_none, oD_some, isAbs, partR, tgS, tgSs, wipeD, List.map_cons, List.map_nil, List.length_cons, List.length_nil, List.cons_append, List.nil_append, List.append_nil, List.getElem?_cons_zero, List.getElem?_cons_succ, List.set_cons_zero, List.set_cons_succ, List.replicate_succ, List.replicate_zero, Nat.zero_add, Nat.add_sub_cancel, Nat.reduceAdd, Nat.reduceSub, Bool.not_true, Bool.not_false, Bool.false_eq_true, if_false, q, e1, e2, l', decide_false, lim3, if_true]
theorem at3 (a b c : D) : atI [a, b, c] 0 = some a ∧ atI [a, b, c] 1 = some b ∧ atI [a, b, c] 2 = some c := ⟨rfl, rfl, rfl⟩
theorem r_law_next {K : Nat} (hK : 2 ≤ K) {s : Nat} {h : MH} (H : SrcH h s) (j : Int) (j0 : 0 < j) (j9 : j.natAbs < 2 ^ 9000) :
    ∃ (v : Int) (h' : MH), runD K i_law_next [.ref s, .int j] h = some (.int v, h') ∧ 0 ≤ v ∧ v < j ∧ Dr s h h' := by
  obtain ⟨k, rfl⟩ : ∃ k, K = k + 1 := ⟨K - 1, by omega⟩
  rw [run_law_next _ _ _ rfl]
  obtain ⟨c, m, t, e⟩ := H
  have l := (List.getElem?_eq_some_iff.mp e).1
  have i0 : idxD h (.ref s) (.int 0) = some (.int c) := by rw [ix_r e]; exact (at3 ..).1
  have p : binD .pow (.int 10) (.int 18) h = some (.int 1000000000000000000, h) := by rw [b_pow h (by decide) (by decide) (by decide)]; rfl
  by_cases hc : 1000000000000000000 ≤ c
  · refine ⟨c % j, h.set s [.int (c / j), .int m, .int t], ?_, Int.emod_nonneg _ (by omega), Int.emod_lt_of_pos _ j0, Dr.set l⟩
    have w : setD h (.ref s) (.int 0) (.int (c / j)) = some (h.set s [.int (c / j), .int m, .int t]) := by
      show (h[s]?).bind _ = _
      rw [e]
      rfl
    simp only [b_law_next, fn_G, con_G, pat_G, ev, evs, evAnd, evOr, evTests, asgT, asgTs, evIt, exe, exes, outD, startD, ob, om, g_b, b_add, b_sub, u_abs, u_int, u_intb, u_max, u_min, c_lt, c_le, c_gt, c_ge, c_eq, c_ne, eqD_int, eqD_bl, ix_0, ix_1, ix_2, fr_0, fr_1, isN_non, isN_fr, isN_e, isN_str, isN_int, isN_tup, lD_none, lD_some, oD_none, oD_some, isAbs, partR, tgS, tgSs, wipeD, List.map_cons, List.map_nil, List.length_cons, List.length_nil, List.cons_append, List.nil_append, List.append_nil, List.getElem?_cons_zero, List.getElem?_cons_succ, List.set_cons_zero, List.set_cons_succ, List.replicate_succ, List.replicate_zero, Nat.zero_add, Nat.add_sub_cancel, Nat.reduceAdd, Nat.reduceSub, Bool.not_true, Bool.not_false, Bool.false_eq_true, if_false, i0, p, hc, decide_true, b_mod h j0, b_div h j0 j9, w]
  · have i2 : idxD h (.ref s) (.int 2) = some (.int t) := by rw [ix_r e]; exact (at3 ..).2.2
    have w : setD h (.ref s) (.int 2) (.int (t + 1)) = some (h.set s [.int c, .int m, .int (t + 1)]) := by
      show (h[s]?).bind _ = _
      rw [e]
      rfl
    have e' : (h.set s [.int c, .int m, .int (t + 1)])[s]? = some [D.int c, .int m, .int (t + 1)] := List.getElem?_set_self l
    have i1' : idxD (h.set s [.int c, .int m, .int (t + 1)]) (.ref s) (.int 1) = some (.int m) := by rw [ix_r e']; exact (at3 ..).2.1
    have i2' : idxD (h.set s [.int c, .int m, .int (t + 1)]) (.ref s) (.int 2) = some (.int (t + 1)) := by rw [ix_r e']; exact (at3 ..).2.2
    obtain ⟨v, e2⟩ := r_law_mixed (show 1 ≤ k by omega) m (t + 1) (h.set s [.int c, .int m, .int (t + 1)])
    refine ⟨v % j, h.set s [.int c, .int m, .int (t + 1)], ?_, Int.emod_nonneg _ (by omega), Int.emod_lt_of_pos _ j0, Dr.set l⟩
    simp only [b_law_next, fn_G, con_G, pat_G, ev, evs, evAnd, evOr, evTests, asgT, asgTs, evIt, exe, exes, outD, startD, ob, om, g_b, b_add, b_sub, u_abs, u_int, u_intb, u_max, u_min, c_lt, c_le, c_gt, c_ge, c_eq, c_ne, eqD_int, eqD_bl, ix_0, ix_1, ix_2, fr_0, fr_1, isN_non, isN_fr, isN_e, isN_str, isN_int, isN_tup, lD_none, lD_some, oD_none, oD_some, isAbs, partR, tgS, tgSs, wipeD, List.map_cons, List.map_nil, List.length_cons, List.length_nil, List.cons_append, List.nil_append, List.append_nil, List.getElem?_cons_zero, List.getElem?_cons_succ, List.set_cons_zero, List.set_cons_succ, List.replicate_succ, List.replicate_zero, Nat.zero_add, Nat.add_sub_cancel, Nat.reduceAdd, Nat.reduceSub, Bool.not_true, Bool.not_false, Bool.false_eq_true, if_false, i0, i2, i1', i2', p, hc, decide_false, b_mod _ j0, w, e2]
theorem r_law_next' {K : Nat} (hK : 2 ≤ K) {s : Nat} {h : MH} (H : SrcH h s) (j : Int) (j0 : 0 < j) (j9 : j.natAbs < 2 ^ 60) :
    ∃ (v : Int) (h' : MH), runD K i_law_next [.ref s, .int j] h = some (.int v, h') ∧ 0 ≤ v ∧ v < j ∧ Dr s h h' :=
  r_law_next hK H j j0 (Nat.lt_of_lt_of_le j9 (Nat.pow_le_pow_right (by decide) (by decide)))
theorem r_law_one {K : Nat} (hK : 3 ≤ K) {s : Nat} {h : MH} (H : SrcH h s) {x : D} {xs : List D} (e : itemsD h x = some xs) (e' : ∀ h', Dr s h h' → itemsD h' x = some xs) (l0 : xs ≠ []) (l9 : xs.length < 2 ^ 60) :
    ∃ (d : D) (h' : MH), runD K i_law_one [.ref s, x] h = some (d, h') ∧ d ∈ xs ∧ Dr s h h' := by
  obtain ⟨k, rfl⟩ : ∃ k, K = k + 1 := ⟨K - 1, by omega⟩
  rw [run_law_one _ _ _ rfl]
  have lp := List.length_pos_iff.mpr l0
  obtain ⟨v, h', en, v0, v1, D⟩ := r_law_next' (show 2 ≤ k by omega) H (xs.length : Int) (by omega) (by omega)
  have lv : v.toNat < xs.length := by omega
  have ei : idxD h' x (.int v) = some xs[v.toNat] := by
    show (itemsD h' x).bind _ = _
    rw [e' h' D, ob]
    have q := atI_nat (List.getElem?_eq_getElem lv)
    rwa [show ((v.toNat : Nat) : Int) = v by omega] at q
  refine ⟨xs[v.toNat], h', ?_, List.getElem_mem lv, D⟩
  simp only [b_law_one, fn_G, con_G, pat_G, ev, evs, evAnd, evOr, evTests, asgT, asgTs, evIt, exe, exes, outD, startD, ob, om, g_b, b_add, b_sub, u_abs, u_int, u_intb, u_max, u_min, c_lt, c_le, c_gt, c_ge, c_eq, c_ne, eqD_int, eqD_bl, ix_0, ix_1, ix_2, fr_0, fr_1, isN_non, isN_fr, isN_e, isN_str, isN_int, isN_tup, lD_none, lD_some, oD_none, oD_some, isAbs, partR, tgS, tgSs, wipeD, List.map_cons, List.map_nil, List.length_cons, List.length_nil, List.cons_append, List.nil_append, List.append_nil, List.getElem?_cons_zero, List.getElem?_cons_succ, List.set_cons_zero, List.set_cons_succ, List.replicate_succ, List.replicate_zero, Nat.zero_add, Nat.add_sub_cancel, Nat.reduceAdd, Nat.reduceSub, Bool.not_true, Bool.not_false, Bool.false_eq_true, if_false, u_len e, en, ei]
theorem r_law_divisor {K : Nat} (hK : 1 ≤ K) (a b : Nat) (h : MH) : runD K i_law_divisor [.int a, .int b] h = some (.int (Nat.gcd a b), h) := by
  obtain ⟨k, rfl⟩ : ∃ k, K = k + 1 := ⟨K - 1, by omega⟩
  rw [run_law_divisor _ _ _ rfl]
  simp only [b_law_divisor, fn_G, con_G, pat_G, ev, evs, evAnd, evOr, evTests, asgT, asgTs, evIt, exe, exes, outD, startD, ob, om, g_b, b_add, b_sub, u_abs, u_int, u_intb, u_max, u_min, c_lt, c_le, c_gt, c_ge, c_eq, c_ne, eqD_int, eqD_bl, ix_0, ix_1, ix_2, fr_0, fr_1, isN_non, isN_fr, isN_e, isN_str, isN_int, isN_tup, lD_none, lD_some, oD_none, oD_some, isAbs, partR, tgS, tgSs, wipeD, List.map_cons, List.map_nil, List.length_cons, List.length_nil, List.cons_append, List.nil_append, List.append_nil, List.getElem?_cons_zero, List.getElem?_cons_succ, List.set_cons_zero, List.set_cons_succ, List.replicate_succ, List.replicate_zero, Nat.zero_add, Nat.add_sub_cancel, Nat.reduceAdd, Nat.reduceSub, Bool.not_true, Bool.not_false, Bool.false_eq_true, if_false]
  rw [gcd_loop (fun a b h => by simp only [fn_G, con_G, pat_G, ev, evs, evAnd, evOr, evTests, asgT, asgTs, evIt, exe, exes, outD, startD, ob, om, g_b, b_add, b_sub, u_abs, u_int, u_intb, u_max, u_min, c_lt, c_le, c_gt, c_ge, c_eq, c_ne, eqD_int, eqD_bl, ix_0, ix_1, ix_2, fr_0, fr_1, isN_non, isN_fr, isN_e, isN_str, isN_int, isN_tup, lD_none, lD_some, oD_none, oD_some, isAbs, partR, tgS, tgSs, wipeD, List.map_cons, List.map_nil, List.length_cons, List.length_nil, List.cons_append, List.nil_append, List.append_nil, List.getElem?_cons_zero, List.getElem?_cons_succ, List.set_cons_zero, List.set_cons_succ, List.replicate_succ, List.replicate_zero, Nat.zero_add, Nat.add_sub_cancel, Nat.reduceAdd, Nat.reduceSub, Bool.not_true, Bool.not_false, Bool.false_eq_true, if_false]) (fun a b h hb => by simp only [fn_G, con_G, pat_G, ev, evs, evAnd, evOr, evTests, asgT, asgTs, evIt, exe, exes, outD, startD, ob, om, g_b, b_add, b_sub, u_abs, u_int, u_intb, u_max, u_min, c_lt, c_le, c_gt, c_ge, c_eq, c_ne, eqD_int, eqD_bl, ix_0, ix_1, ix_2, fr_0, fr_1, isN_non, isN_fr, isN_e, isN_str, isN_int, isN_tup, lD_none, lD_some, oD_none, oD_some, isAbs, partR, tgS, tgSs, wipeD, List.map_cons, List.map_nil, List.length_cons, List.length_nil, List.cons_append, List.nil_append, List.append_nil, List.getElem?_cons_zero, List.getElem?_cons_succ, List.set_cons_zero, List.set_cons_succ, List.replicate_succ, List.replicate_zero, Nat.zero_add, Nat.add_sub_cancel, Nat.reduceAdd, Nat.reduceSub, Bool.not_true, Bool.not_false, Bool.false_eq_true, if_false, b_mod _ hb]) _ a b h (by show b < (b : Int).toNat + 1; omega)]
  simp only [fn_G, con_G, pat_G, ev, evs, evAnd, evOr, evTests, asgT, asgTs, evIt, exe, exes, outD, startD, ob, om, g_b, b_add, b_sub, u_abs, u_int, u_intb, u_max, u_min, c_lt, c_le, c_gt, c_ge, c_eq, c_ne, eqD_int, eqD_bl, ix_0, ix_1, ix_2, fr_0, fr_1, isN_non, isN_fr, isN_e, isN_str, isN_int, isN_tup, lD_none, lD_some, oD_none, oD_some, isAbs, partR, tgS, tgSs, wipeD, List.map_cons, List.map_nil, List.length_cons, List.length_nil, List.cons_append, List.nil_append, List.append_nil, List.getElem?_cons_zero, List.getElem?_cons_succ, List.set_cons_zero, List.set_cons_succ, List.replicate_succ, List.replicate_zero, Nat.zero_add, Nat.add_sub_cancel, Nat.reduceAdd, Nat.reduceSub, Bool.not_true, Bool.not_false, Bool.false_eq_true, if_false]
theorem r_law_ratio {K : Nat} (hK : 2 ≤ K) (p q : Int) (h : MH) (hq : q ≠ 0) (hs : q.natAbs < 2 ^ 9000) : runD K i_law_ratio [.int p, .int q] h = some (frR (Rat.divInt p q), h) := by
  obtain ⟨k, rfl⟩ : ∃ k, K = k + 1 := ⟨K - 1, by omega⟩
  rw [run_law_ratio _ _ _ rfl]
  have main : ∀ (p : Int) (q : Nat) (h : MH), 0 < q → q < 2 ^ 9000 → (runD k i_law_divisor [.int (p.natAbs : Int), .int q] h) = some (.int (Nat.gcd p.natAbs q), h) ∧ binD .fdiv (.int p) (.int (Nat.gcd p.natAbs q)) h = some (.int (mkRat p q).num, h) ∧ binD .fdiv (.int q) (.int (Nat.gcd p.natAbs q)) h = some (.int (mkRat p q).den, h) := by
    intro p q h l ls
    have g := Nat.gcd_le_right p.natAbs l
    have g0 := Nat.gcd_pos_of_pos_right p.natAbs l
    refine ⟨r_law_divisor (by omega) .., ?_, ?_⟩
    · rw [b_div h (by omega) (by omega), (ratio_pos p q l).1]
    · rw [b_div h (by omega) (by omega), (ratio_pos p q l).2]
  by_cases hn : q < 0
  · obtain ⟨q', rfl⟩ : ∃ q' : Nat, q = -(q' : Int) := ⟨q.natAbs, by omega⟩
    obtain ⟨m1, m2, m3⟩ := main (-p) q' h (by omega) (by omega)
    rw [← Rat.neg_divInt_neg, Int.neg_neg, Rat.divInt_ofNat]
    simp only [b_law_ratio, fn_G, con_G, pat_G, ev, evs, evAnd, evOr, evTests, asgT, asgTs, evIt, exe, exes, outD, startD, ob, om, g_b, b_add, b_sub, u_abs, u_int, u_intb, u_max, u_min, c_lt, c_le, c_gt, c_ge, c_eq, c_ne, eqD_int, eqD_bl, ix_0, ix_1, ix_2, fr_0, fr_1, isN_non, isN_fr, isN_e, isN_str, isN_int, isN_tup, lD_none, lD_some, oD_none, oD_some, isAbs, partR, tgS, tgSs, wipeD, List.map_cons, List.map_nil, List.length_cons, List.length_nil, List.cons_append, List.nil_append, List.append_nil, List.getElem?_cons_zero, List.getElem?_cons_succ, List.set_cons_zero, List.set_cons_succ, List.replicate_succ, List.replicate_zero, Nat.zero_add, Nat.add_sub_cancel, Nat.reduceAdd, Nat.reduceSub, Bool.not_true, Bool.not_false, Bool.false_eq_true, if_false, hn, Int.zero_sub, Int.neg_neg, decide_true, m1, m2, m3]
    rfl
  · obtain ⟨q', rfl⟩ : ∃ q' : Nat, q = (q' : Int) := ⟨q.natAbs, by omega⟩
    obtain ⟨m1, m2, m3⟩ := main p q' h (by omega) (by omega)
    rw [Rat.divInt_ofNat]
    simp only [b_law_ratio, fn_G, con_G, pat_G, ev, evs, evAnd, evOr, evTests, asgT, asgTs, evIt, exe, exes, outD, startD, ob, om, g_b, b_add, b_sub, u_abs, u_int, u_intb, u_max, u_min, c_lt, c_le, c_gt, c_ge, c_eq, c_ne, eqD_int, eqD_bl, ix_0, ix_1, ix_2, fr_0, fr_1, isN_non, isN_fr, isN_e, isN_str, isN_int, isN_tup, lD_none, lD_some, oD_none, oD_some, isAbs, partR, tgS, tgSs, wipeD, List.map_cons, List.map_nil, List.length_cons, List.length_nil, List.cons_append, List.nil_append, List.append_nil, List.getElem?_cons_zero, List.getElem?_cons_succ, List.set_cons_zero, List.set_cons_succ, List.replicate_succ, List.replicate_zero, Nat.zero_add, Nat.add_sub_cancel, Nat.reduceAdd, Nat.reduceSub, Bool.not_true, Bool.not_false, Bool.false_eq_true, if_false, hn, decide_false, m1, m2, m3]
    rfl
theorem r_law_plus {K : Nat} (hK : 3 ≤ K) {a b : Rat} {n m : Nat} (ha : Sz n a) (hb : Sz m b) (l : n + m ≤ 9000) (h : MH) : runD K i_law_plus [frR a, frR b] h = some (frR (a + b), h) := by
  obtain ⟨k, rfl⟩ : ∃ k, K = k + 1 := ⟨K - 1, by omega⟩
  rw [run_law_plus _ _ _ rfl]
  obtain ⟨m1, m2, m3, m4, m5⟩ := muls ha hb l h
  obtain ⟨d1, d2⟩ := den9 ha hb l
  simp only [b_law_plus, fn_G, con_G, pat_G, ev, evs, evAnd, evOr, evTests, asgT, asgTs, evIt, exe, exes, outD, startD, ob, om, g_b, b_add, b_sub, u_abs, u_int, u_intb, u_max, u_min, c_lt, c_le, c_gt, c_ge, c_eq, c_ne, eqD_int, eqD_bl, ix_0, ix_1, ix_2, fr_0, fr_1, isN_non, isN_fr, isN_e, isN_str, isN_int, isN_tup, lD_none, lD_some, oD_none, oD_some, isAbs, partR, tgS, tgSs, wipeD, List.map_cons, List.map_nil, List.length_cons, List.length_nil, List.cons_append, List.nil_append, List.append_nil, List.getElem?_cons_zero, List.getElem?_cons_succ, List.set_cons_zero, List.set_cons_succ, List.replicate_succ, List.replicate_zero, Nat.zero_add, Nat.add_sub_cancel, Nat.reduceAdd, Nat.reduceSub, Bool.not_true, Bool.not_false, Bool.false_eq_true, if_false, m1, m2, m3, m4, m5, r_law_ratio (show 2 ≤ k by omega) _ _ h d1 d2, add_frR]
theorem r_law_minus {K : Nat} (hK : 3 ≤ K) {a b : Rat} {n m : Nat} (ha : Sz n a) (hb : Sz m b) (l : n + m ≤ 9000) (h : MH) : runD K i_law_minus [frR a, frR b] h = some (frR (a - b), h) := by
  obtain ⟨k, rfl⟩ : ∃ k, K = k + 1 := ⟨K - 1, by omega⟩
  rw [run_law_minus _ _ _ rfl]
  obtain ⟨m1, m2, m3, m4, m5⟩ := muls ha hb l h
  obtain ⟨d1, d2⟩ := den9 ha hb l
  simp only [b_law_minus, fn_G, con_G, pat_G, ev, evs, evAnd, evOr, evTests, asgT, asgTs, evIt, exe, exes, outD, startD, ob, om, g_b, b_add, b_sub, u_abs, u_int, u_intb, u_max, u_min, c_lt, c_le, c_gt, c_ge, c_eq, c_ne, eqD_int, eqD_bl, ix_0, ix_1, ix_2, fr_0, fr_1, isN_non, isN_fr, isN_e, isN_str, isN_int, isN_tup, lD_none, lD_some, oD_none, oD_some, isAbs, partR, tgS, tgSs, wipeD, List.map_cons, List.map_nil, List.length_cons, List.length_nil, List.cons_append, List.nil_append, List.append_nil, List.getElem?_cons_zero, List.getElem?_cons_succ, List.set_cons_zero, List.set_cons_succ, List.replicate_succ, List.replicate_zero, Nat.zero_add, Nat.add_sub_cancel, Nat.reduceAdd, Nat.reduceSub, Bool.not_true, Bool.not_false, Bool.false_eq_true, if_false, m1, m2, m3, m4, m5, r_law_ratio (show 2 ≤ k by omega) _ _ h d1 d2, sub_frR]
theorem r_law_times {K : Nat} (hK : 3 ≤ K) {a b : Rat} {n m : Nat} (ha : Sz n a) (hb : Sz m b) (l : n + m ≤ 9000) (h : MH) : runD K i_law_times [frR a, frR b] h = some (frR (a * b), h) := by
  obtain ⟨k, rfl⟩ : ∃ k, K = k + 1 := ⟨K - 1, by omega⟩
  rw [run_law_times _ _ _ rfl]
  obtain ⟨m1, m2, m3, m4, m5⟩ := muls ha hb l h
  obtain ⟨d1, d2⟩ := den9 ha hb l
  simp only [b_law_times, fn_G, con_G, pat_G, ev, evs, evAnd, evOr, evTests, asgT, asgTs, evIt, exe, exes, outD, startD, ob, om, g_b, b_add, b_sub, u_abs, u_int, u_intb, u_max, u_min, c_lt, c_le, c_gt, c_ge, c_eq, c_ne, eqD_int, eqD_bl, ix_0, ix_1, ix_2, fr_0, fr_1, isN_non, isN_fr, isN_e, isN_str, isN_int, isN_tup, lD_none, lD_some, oD_none, oD_some, isAbs, partR, tgS, tgSs, wipeD, List.map_cons, List.map_nil, List.length_cons, List.length_nil, List.cons_append, List.nil_append, List.append_nil, List.getElem?_cons_zero, List.getElem?_cons_succ, List.set_cons_zero, List.set_cons_succ, List.replicate_succ, List.replicate_zero, Nat.zero_add, Nat.add_sub_cancel, Nat.reduceAdd, Nat.reduceSub, Bool.not_true, Bool.not_false, Bool.false_eq_true, if_false, m1, m2, m3, m4, m5, r_law_ratio (show 2 ≤ k by omega) _ _ h d1 d2, mul_frR]
theorem den9v {a b : Rat} {n m : Nat} (ha : Sz n a) (hb : Sz m b) (l : n + m ≤ 9000) (h0 : b ≠ 0) : (a.den : Int) * b.num ≠ 0 ∧ ((a.den : Int) * b.num).natAbs < 2 ^ 9000 := by
  refine ⟨by have := a.den_nz; have := mt Rat.num_eq_zero.mp h0; exact Int.mul_ne_zero (by omega) this, ?_⟩
  rw [Int.natAbs_mul]
  exact Nat.lt_of_lt_of_le (mul_pow_lt ha.2 hb.1) (Nat.pow_le_pow_right (by decide) l)
theorem r_law_over {K : Nat} (hK : 3 ≤ K) {a b : Rat} {n m : Nat} (ha : Sz n a) (hb : Sz m b) (l : n + m ≤ 9000) (h0 : b ≠ 0) (h : MH) : runD K i_law_over [frR a, frR b] h = some (frR (a / b), h) := by
  obtain ⟨k, rfl⟩ : ∃ k, K = k + 1 := ⟨K - 1, by omega⟩
  rw [run_law_over _ _ _ rfl]
  obtain ⟨m1, m2, m3, m4, m5⟩ := muls ha hb l h
  obtain ⟨d1, d2⟩ := den9v ha hb l h0
  simp only [b_law_over, fn_G, con_G, pat_G, ev, evs, evAnd, evOr, evTests, asgT, asgTs, evIt, exe, exes, outD, startD, ob, om, g_b, b_add, b_sub, u_abs, u_int, u_intb, u_max, u_min, c_lt, c_le, c_gt, c_ge, c_eq, c_ne, eqD_int, eqD_bl, ix_0, ix_1, ix_2, fr_0, fr_1, isN_non, isN_fr, isN_e, isN_str, isN_int, isN_tup, lD_none, lD_some, oD_none, oD_some, isAbs, partR, tgS, tgSs, wipeD, List.map_cons, List.map_nil, List.length_cons, List.length_nil, List.cons_append, List.nil_append, List.append_nil, List.getElem?_cons_zero, List.getElem?_cons_succ, List.set_cons_zero, List.set_cons_succ, List.replicate_succ, List.replicate_zero, Nat.zero_add, Nat.add_sub_cancel, Nat.reduceAdd, Nat.reduceSub, Bool.not_true, Bool.not_false, Bool.false_eq_true, if_false, m1, m2, m3, m4, m5, r_law_ratio (show 2 ≤ k by omega) _ _ h d1 d2, div_frR]
theorem frRi (i : Int) : (D.tup [.int i, .int 1]) = frR (i : Rat) := rfl
theorem r_law_part {K : Nat} (hK : 3 ≤ K) {s : Nat} {h : MH} (H : SrcH h s) : ∃ (r : Rat) (h' : MH), runD K i_law_part [.ref s] h = some (frR r, h') ∧ Dr s h h' ∧ Sz 31 r ∧ 0 ≤ r := by
  obtain ⟨k, rfl⟩ : ∃ k, K = k + 1 := ⟨K - 1, by omega⟩
  have kk : 2 ≤ k := by omega
  rw [run_law_part _ _ _ rfl]
  obtain ⟨w, h1, e1, w0, w1, D1⟩ := r_law_next' kk H 6 (by decide) (by decide)
  have lim2 : (0 + 1 + 1 ≤ LIM) = True := by simp [LIM]
  by_cases c0 : w = 0
  · refine ⟨0, h1, ?_, D1, Sz0.mono (by decide), by decide⟩
    simp only [b_law_part, fn_G, con_G, pat_G, ev, evs, evAnd, evOr, evTests, asgT, asgTs, evIt, exe, exes, outD, startD, ob, om, g_b, b_add, b_sub, u_abs, u_int, u_intb, u_max, u_min, c_lt, c_le, c_gt, c_ge, c_eq, c_ne, eqD_int, eqD_bl, ix_0, ix_1, ix_2, fr_0, fr_1, isN_non, isN_fr, isN_e, isN_str, isN_int, isN_tup, lD_none, lD_some, oD_none, oD_some, isAbs, partR, tgS, tgSs, wipeD, List.map_cons, List.map_nil, List.length_cons, List.length_nil, List.cons_append, List.nil_append, List.append_nil, List.getElem?_cons_zero, List.getElem?_cons_succ, List.set_cons_zero, List.set_cons_succ, List.replicate_succ, List.replicate_zero, Nat.zero_add, Nat.add_sub_cancel, Nat.reduceAdd, Nat.reduceSub, Bool.not_true, Bool.not_false, Bool.false_eq_true, if_false, e1, c0, decide_true, lim2, if_true]
    rfl
  · by_cases c1 : w < 4
    · obtain ⟨v, h2, e2, v0, v1, D2⟩ := r_law_next' kk D1.1 12 (by decide) (by decide)
      refine ⟨((1 + v : Int) : Rat), h2, ?_, D1.trans D2, Sz.int (by omega) (by decide), by rw [← Rat.num_nonneg]; show 0 ≤ 1 + v; omega⟩
      simp only [b_law_part, fn_G, con_G, pat_G, ev, evs, evAnd, evOr, evTests, asgT, asgTs, evIt, exe, exes, outD, startD, ob, om, g_b, b_add, b_sub, u_abs, u_int, u_intb, u_max, u_min, c_lt, c_le, c_gt, c_ge, c_eq, c_ne, eqD_int, eqD_bl, ix_0, ix_1, ix_2, fr_0, fr_1, isN_non, isN_fr, isN_e, isN_str, isN_int, isN_tup, lD_none, lD_some, oD_none, oD_some, isAbs, partR, tgS, tgSs, wipeD, List.map_cons, List.map_nil, List.length_cons, List.length_nil, List.cons_append, List.nil_append, List.append_nil, List.getElem?_cons_zero, List.getElem?_cons_succ, List.set_cons_zero, List.set_cons_succ, List.replicate_succ, List.replicate_zero, Nat.zero_add, Nat.add_sub_cancel, Nat.reduceAdd, Nat.reduceSub, Bool.not_true, Bool.not_false, Bool.false_eq_true, if_false, e1, e2, c0, c1, decide_true, decide_false, lim2, if_true, frRi]
    · by_cases c2 : w = 4
      · obtain ⟨v, h2, e2, v0, v1, D2⟩ := r_law_next' kk D1.1 20 (by decide) (by decide)
        obtain ⟨u, h3, e3, u0, u1, D3⟩ := r_law_next' kk D2.1 6 (by decide) (by decide)
        refine ⟨Rat.divInt (1 + v) (1 + u), h3, ?_, (D1.trans D2).trans D3, Sz.divInt (by omega) (by omega) (by omega), ?_⟩
        · simp only [b_law_part, fn_G, con_G, pat_G, ev, evs, evAnd, evOr, evTests, asgT, asgTs, evIt, exe, exes, outD, startD, ob, om, g_b, b_add, b_sub, u_abs, u_int, u_intb, u_max, u_min, c_lt, c_le, c_gt, c_ge, c_eq, c_ne, eqD_int, eqD_bl, ix_0, ix_1, ix_2, fr_0, fr_1, isN_non, isN_fr, isN_e, isN_str, isN_int, isN_tup, lD_none, lD_some, oD_none, oD_some, isAbs, partR, tgS, tgSs, wipeD, List.map_cons, List.map_nil, List.length_cons, List.length_nil, List.cons_append, List.nil_append, List.append_nil, List.getElem?_cons_zero, List.getElem?_cons_succ, List.set_cons_zero, List.set_cons_succ, List.replicate_succ, List.replicate_zero, Nat.zero_add, Nat.add_sub_cancel, Nat.reduceAdd, Nat.reduceSub, Bool.not_true, Bool.not_false, Bool.false_eq_true, if_false, e1, e2, e3, c0, c1, decide_eq_true c2, decide_true, decide_false, r_law_ratio kk (1 + v) (1 + u) h3 (by omega) (s60 (by omega))]
        · exact Rat.divInt_nonneg (by omega) (by omega)
      · have p : ∀ h, binD .pow (.int 10) (.int 9) h = some (.int 1000000000, h) := fun h => by rw [b_pow h (by decide) (by decide) (by decide)]; rfl
        obtain ⟨v, h2, e2, v0, v1, D2⟩ := r_law_next' kk D1.1 1000000000 (by decide) (by decide)
        obtain ⟨u, h3, e3, u0, u1, D3⟩ := r_law_next' kk D2.1 1000 (by decide) (by decide)
        refine ⟨Rat.divInt (1 + v) (1 + u), h3, ?_, (D1.trans D2).trans D3, Sz.divInt (by omega) (by omega) (by omega), ?_⟩
        · simp only [b_law_part, fn_G, con_G, pat_G, ev, evs, evAnd, evOr, evTests, asgT, asgTs, evIt, exe, exes, outD, startD, ob, om, g_b, b_add, b_sub, u_abs, u_int, u_intb, u_max, u_min, c_lt, c_le, c_gt, c_ge, c_eq, c_ne, eqD_int, eqD_bl, ix_0, ix_1, ix_2, fr_0, fr_1, isN_non, isN_fr, isN_e, isN_str, isN_int, isN_tup, lD_none, lD_some, oD_none, oD_some, isAbs, partR, tgS, tgSs, wipeD, List.map_cons, List.map_nil, List.length_cons, List.length_nil, List.cons_append, List.nil_append, List.append_nil, List.getElem?_cons_zero, List.getElem?_cons_succ, List.set_cons_zero, List.set_cons_succ, List.replicate_succ, List.replicate_zero, Nat.zero_add, Nat.add_sub_cancel, Nat.reduceAdd, Nat.reduceSub, Bool.not_true, Bool.not_false, Bool.false_eq_true, if_false, e1, e2, e3, c0, c1, c2, p, decide_true, decide_false, r_law_ratio kk (1 + v) (1 + u) h3 (by omega) (s60 (by omega))]
        · exact Rat.divInt_nonneg (by omega) (by omega)
theorem r_law_any {K : Nat} (hK : 4 ≤ K) {s : Nat} {h : MH} (H : SrcH h s) : ∃ (r : Rat) (h' : MH), runD K i_law_any_part [.ref s] h = some (frR r, h') ∧ Dr s h h' ∧ Sz 31 r := by
  obtain ⟨k, rfl⟩ : ∃ k, K = k + 1 := ⟨K - 1, by omega⟩
  rw [run_law_any_part _ _ _ rfl]
  obtain ⟨r, h1, e1, D1, z, _⟩ := r_law_part (show 3 ≤ k by omega) H
  obtain ⟨v, h2, e2, v0, v1, D2⟩ := r_law_next' (show 2 ≤ k by omega) D1.1 3 (by decide) (by decide)
  have lim2 : (0 + 1 + 1 ≤ LIM) = True := by simp [LIM]
  by_cases c : v = 0
  · refine ⟨-r, h2, ?_, D1.trans D2, z.neg⟩
    simp only [b_law_any_part, fn_G, con_G, pat_G, ev, evs, evAnd, evOr, evTests, asgT, asgTs, evIt, exe, exes, outD, startD, ob, om, g_b, b_add, b_sub, u_abs, u_int, u_intb, u_max, u_min, c_lt, c_le, c_gt, c_ge, c_eq, c_ne, eqD_int, eqD_bl, ix_0, ix_1, ix_2, fr_0, fr_1, isN_non, isN_fr, isN_e, isN_str, isN_int, isN_tup, lD_none, lD_some, oD_none, oD_some, isAbs, partR, tgS, tgSs, wipeD, List.map_cons, List.map_nil, List.length_cons, List.length_nil, List.cons_append, List.nil_append, List.append_nil, List.getElem?_cons_zero, List.getElem?_cons_succ, List.set_cons_zero, List.set_cons_succ, List.replicate_succ, List.replicate_zero, Nat.zero_add, Nat.add_sub_cancel, Nat.reduceAdd, Nat.reduceSub, Bool.not_true, Bool.not_false, Bool.false_eq_true, if_false, e1, e2, c, decide_true, lim2, if_true, Int.zero_sub]
    rfl
  · refine ⟨r, h2, ?_, D1.trans D2, z⟩
    simp only [b_law_any_part, fn_G, con_G, pat_G, ev, evs, evAnd, evOr, evTests, asgT, asgTs, evIt, exe, exes, outD, startD, ob, om, g_b, b_add, b_sub, u_abs, u_int, u_intb, u_max, u_min, c_lt, c_le, c_gt, c_ge, c_eq, c_ne, eqD_int, eqD_bl, ix_0, ix_1, ix_2, fr_0, fr_1, isN_non, isN_fr, isN_e, isN_str, isN_int, isN_tup, lD_none, lD_some, oD_none, oD_some, isAbs, partR, tgS, tgSs, wipeD, List.map_cons, List.map_nil, List.length_cons, List.length_nil, List.cons_append, List.nil_append, List.append_nil, List.getElem?_cons_zero, List.getElem?_cons_succ, List.set_cons_zero, List.set_cons_succ, List.replicate_succ, List.replicate_zero, Nat.zero_add, Nat.add_sub_cancel, Nat.reduceAdd, Nat.reduceSub, Bool.not_true, Bool.not_false, Bool.false_eq_true, if_false, e1, e2, c, decide_false]
theorem r_law_less {K : Nat} (hK : 1 ≤ K) {a b : Rat} {n m : Nat} (ha : Sz n a) (hb : Sz m b) (l : n + m ≤ 9000) (h : MH) : runD K i_law_less [frR a, frR b] h = some (.bl (decide (a < b)), h) := by
  obtain ⟨k, rfl⟩ : ∃ k, K = k + 1 := ⟨K - 1, by omega⟩
  rw [run_law_less _ _ _ rfl]
  obtain ⟨m1, m2, m3, m4, m5⟩ := muls ha hb l h
  simp only [b_law_less, fn_G, con_G, pat_G, ev, evs, evAnd, evOr, evTests, asgT, asgTs, evIt, exe, exes, outD, startD, ob, om, g_b, b_add, b_sub, u_abs, u_int, u_intb, u_max, u_min, c_lt, c_le, c_gt, c_ge, c_eq, c_ne, eqD_int, eqD_bl, ix_0, ix_1, ix_2, fr_0, fr_1, isN_non, isN_fr, isN_e, isN_str, isN_int, isN_tup, lD_none, lD_some, oD_none, oD_some, isAbs, partR, tgS, tgSs, wipeD, List.map_cons, List.map_nil, List.length_cons, List.length_nil, List.cons_append, List.nil_append, List.append_nil, List.getElem?_cons_zero, List.getElem?_cons_succ, List.set_cons_zero, List.set_cons_succ, List.replicate_succ, List.replicate_zero, Nat.zero_add, Nat.add_sub_cancel, Nat.reduceAdd, Nat.reduceSub, Bool.not_true, Bool.not_false, Bool.false_eq_true, if_false, m1, m2, m3, m4, m5, lt_frR]

/-! ### fractions and the endless, on data -/
theorem endless_endless (h : MH) : eqD h (.str "endless") (.str "endless") = some true := by
  rw [eqD_str h _ _ endless_ok endless_ok]
  exact congrArg some (by decide +kernel)
theorem conE : conD c_ENDLESS = eD .inf := rfl
theorem r_endless {K : Nat} (hK : 1 ≤ K) (a : EQ) (h : MH) : runD K i_is_endless [eD a] h = some (.bl (decide (a = .inf)), h) := by
  cases a with
  | fin r => exact z_endless hK r h
  | inf =>
    obtain ⟨k, rfl⟩ : ∃ k, K = k + 1 := ⟨K - 1, by omega⟩
    rw [run_is_endless _ _ _ rfl]
    have q : L2.kitB (tyn (.str "endless")) "str" = some true := rfl
    have c : conD c_ENDLESS = .str "endless" := rfl
    simp only [b_is_endless, fn_G, con_G, pat_G, ev, evs, evAnd, evOr, evTests, asgT, asgTs, evIt, exe, exes, outD, startD, ob, om, g_b, b_add, b_sub, u_abs, u_int, u_intb, u_max, u_min, c_lt, c_le, c_gt, c_ge, c_eq, c_ne, eqD_int, eqD_bl, ix_0, ix_1, ix_2, fr_0, fr_1, isN_non, isN_fr, isN_e, isN_str, isN_int, isN_tup, lD_none, lD_some, oD_none, oD_some, isAbs, partR, tgS, tgSs, wipeD, List.map_cons, List.map_nil, List.length_cons, List.length_nil, List.cons_append, List.nil_append, List.append_nil, List.getElem?_cons_zero, List.getElem?_cons_succ, List.set_cons_zero, List.set_cons_succ, List.replicate_succ, List.replicate_zero, Nat.zero_add, Nat.add_sub_cancel, Nat.reduceAdd, Nat.reduceSub, Bool.not_true, Bool.not_false, Bool.false_eq_true, if_false, eD, q, c, endless_endless]
    rfl
theorem r_plusE {K : Nat} (hK : 3 ≤ K) {a b : EQ} {n m : Nat} (ha : SzE n a) (hb : SzE m b) (l : n + m ≤ 9000) (h : MH) : runD K i_plus [eD a, eD b] h = some (eD (eadd a b), h) := by
  cases a with
  | fin x => cases b with
    | fin y => exact r_plus hK ha hb l h
    | inf =>
      obtain ⟨k, rfl⟩ : ∃ k, K = k + 1 := ⟨K - 1, by omega⟩
      rw [run_plus _ _ _ rfl]
      simp only [b_plus, fn_G, con_G, pat_G, ev, evs, evAnd, evOr, evTests, asgT, asgTs, evIt, exe, exes, outD, startD, ob, om, g_b, b_add, b_sub, u_abs, u_int, u_intb, u_max, u_min, c_lt, c_le, c_gt, c_ge, c_eq, c_ne, eqD_int, eqD_bl, ix_0, ix_1, ix_2, fr_0, fr_1, isN_non, isN_fr, isN_e, isN_str, isN_int, isN_tup, lD_none, lD_some, oD_none, oD_some, isAbs, partR, tgS, tgSs, wipeD, List.map_cons, List.map_nil, List.length_cons, List.length_nil, List.cons_append, List.nil_append, List.append_nil, List.getElem?_cons_zero, List.getElem?_cons_succ, List.set_cons_zero, List.set_cons_succ, List.replicate_succ, List.replicate_zero, Nat.zero_add, Nat.add_sub_cancel, Nat.reduceAdd, Nat.reduceSub, Bool.not_true, Bool.not_false, Bool.false_eq_true, if_false, r_endless (show 1 ≤ k by omega), conE, reduceCtorEq, decide_true, decide_false, eadd]
  | inf =>
    obtain ⟨k, rfl⟩ : ∃ k, K = k + 1 := ⟨K - 1, by omega⟩
    rw [run_plus _ _ _ rfl]
    simp only [b_plus, fn_G, con_G, pat_G, ev, evs, evAnd, evOr, evTests, asgT, asgTs, evIt, exe, exes, outD, startD, ob, om, g_b, b_add, b_sub, u_abs, u_int, u_intb, u_max, u_min, c_lt, c_le, c_gt, c_ge, c_eq, c_ne, eqD_int, eqD_bl, ix_0, ix_1, ix_2, fr_0, fr_1, isN_non, isN_fr, isN_e, isN_str, isN_int, isN_tup, lD_none, lD_some, oD_none, oD_some, isAbs, partR, tgS, tgSs, wipeD, List.map_cons, List.map_nil, List.length_cons, List.length_nil, List.cons_append, List.nil_append, List.append_nil, List.getElem?_cons_zero, List.getElem?_cons_succ, List.set_cons_zero, List.set_cons_succ, List.replicate_succ, List.replicate_zero, Nat.zero_add, Nat.add_sub_cancel, Nat.reduceAdd, Nat.reduceSub, Bool.not_true, Bool.not_false, Bool.false_eq_true, if_false, r_endless (show 1 ≤ k by omega), conE, decide_true, eadd]
theorem r_minusE {K : Nat} (hK : 3 ≤ K) {a : EQ} {b : Rat} {n m : Nat} (ha : SzE n a) (hb : Sz m b) (l : n + m ≤ 9000) (h : MH) : runD K i_minus [eD a, frR b] h = some (eD (eadd a (.fin (-b))), h) := by
  cases a with
  | fin x =>
    have := r_minus hK ha hb l h
    rw [Rat.sub_eq_add_neg] at this
    exact this
  | inf =>
    obtain ⟨k, rfl⟩ : ∃ k, K = k + 1 := ⟨K - 1, by omega⟩
    rw [run_minus _ _ _ rfl]
    simp only [b_minus, fn_G, con_G, pat_G, ev, evs, evAnd, evOr, evTests, asgT, asgTs, evIt, exe, exes, outD, startD, ob, om, g_b, b_add, b_sub, u_abs, u_int, u_intb, u_max, u_min, c_lt, c_le, c_gt, c_ge, c_eq, c_ne, eqD_int, eqD_bl, ix_0, ix_1, ix_2, fr_0, fr_1, isN_non, isN_fr, isN_e, isN_str, isN_int, isN_tup, lD_none, lD_some, oD_none, oD_some, isAbs, partR, tgS, tgSs, wipeD, List.map_cons, List.map_nil, List.length_cons, List.length_nil, List.cons_append, List.nil_append, List.append_nil, List.getElem?_cons_zero, List.getElem?_cons_succ, List.set_cons_zero, List.set_cons_succ, List.replicate_succ, List.replicate_zero, Nat.zero_add, Nat.add_sub_cancel, Nat.reduceAdd, Nat.reduceSub, Bool.not_true, Bool.not_false, Bool.false_eq_true, if_false, r_endless (show 1 ≤ k by omega), conE, decide_true, eadd]
theorem eD0 : (D.tup [.int 0, .int 1]) = eD (.fin 0) := rfl
theorem r_productE {K : Nat} (hK : 3 ≤ K) {a b : EQ} {n m : Nat} (ha : SzE n a) (hb : SzE m b) (l : n + m ≤ 9000) (h : MH) : runD K i_product [eD a, eD b] h = some (eD (emul a b), h) := by
  have hard : ∀ a b : EQ, (a = .inf ∨ b = .inf) → runD K i_product [eD a, eD b] h = some (eD (emul a b), h) := by
    intro a b c
    obtain ⟨k, rfl⟩ : ∃ k, K = k + 1 := ⟨K - 1, by omega⟩
    rw [run_product _ _ _ rfl]
    have z : conD c_ZERO = eD (.fin 0) := rfl
    have lim2 : (0 + 1 + 1 ≤ LIM) = True := by simp [LIM]
    by_cases e : a = .fin 0 ∨ b = .fin 0
    · have e' : (decide (a = .fin 0) || decide (b = .fin 0)) = true := by simpa using e
      simp only [b_product, fn_G, con_G, pat_G, ev, evs, evAnd, evOr, evTests, asgT, asgTs, evIt, exe, exes, outD, startD, ob, om, g_b, b_add, b_sub, u_abs, u_int, u_intb, u_max, u_min, c_lt, c_le, c_gt, c_ge, c_eq, c_ne, eqD_int, eqD_bl, ix_0, ix_1, ix_2, fr_0, fr_1, isN_non, isN_fr, isN_e, isN_str, isN_int, isN_tup, lD_none, lD_some, oD_none, oD_some, isAbs, partR, tgS, tgSs, wipeD, List.map_cons, List.map_nil, List.length_cons, List.length_nil, List.cons_append, List.nil_append, List.append_nil, List.getElem?_cons_zero, List.getElem?_cons_succ, List.set_cons_zero, List.set_cons_succ, List.replicate_succ, List.replicate_zero, Nat.zero_add, Nat.add_sub_cancel, Nat.reduceAdd, Nat.reduceSub, Bool.not_true, Bool.not_false, Bool.false_eq_true, if_false, z, lim2, if_true, in_e2, e', emul, e]
    · have e' : (decide (a = .fin 0) || decide (b = .fin 0)) = false := by simpa using e
      have r : emul a b = .inf := by
        unfold emul
        rw [if_neg e]
        rcases c with rfl | rfl
        · rfl
        · cases a <;> rfl
      rw [r]
      rcases c with rfl | rfl
      · simp only [b_product, fn_G, con_G, pat_G, ev, evs, evAnd, evOr, evTests, asgT, asgTs, evIt, exe, exes, outD, startD, ob, om, g_b, b_add, b_sub, u_abs, u_int, u_intb, u_max, u_min, c_lt, c_le, c_gt, c_ge, c_eq, c_ne, eqD_int, eqD_bl, ix_0, ix_1, ix_2, fr_0, fr_1, isN_non, isN_fr, isN_e, isN_str, isN_int, isN_tup, lD_none, lD_some, oD_none, oD_some, isAbs, partR, tgS, tgSs, wipeD, List.map_cons, List.map_nil, List.length_cons, List.length_nil, List.cons_append, List.nil_append, List.append_nil, List.getElem?_cons_zero, List.getElem?_cons_succ, List.set_cons_zero, List.set_cons_succ, List.replicate_succ, List.replicate_zero, Nat.zero_add, Nat.add_sub_cancel, Nat.reduceAdd, Nat.reduceSub, Bool.not_true, Bool.not_false, Bool.false_eq_true, if_false, z, lim2, if_true, in_e2, e', r_endless (show 1 ≤ k by omega), conE, decide_true]
      · cases q : decide (a = .inf) <;> simp only [b_product, fn_G, con_G, pat_G, ev, evs, evAnd, evOr, evTests, asgT, asgTs, evIt, exe, exes, outD, startD, ob, om, g_b, b_add, b_sub, u_abs, u_int, u_intb, u_max, u_min, c_lt, c_le, c_gt, c_ge, c_eq, c_ne, eqD_int, eqD_bl, ix_0, ix_1, ix_2, fr_0, fr_1, isN_non, isN_fr, isN_e, isN_str, isN_int, isN_tup, lD_none, lD_some, oD_none, oD_some, isAbs, partR, tgS, tgSs, wipeD, List.map_cons, List.map_nil, List.length_cons, List.length_nil, List.cons_append, List.nil_append, List.append_nil, List.getElem?_cons_zero, List.getElem?_cons_succ, List.set_cons_zero, List.set_cons_succ, List.replicate_succ, List.replicate_zero, Nat.zero_add, Nat.add_sub_cancel, Nat.reduceAdd, Nat.reduceSub, Bool.not_true, Bool.not_false, Bool.false_eq_true, if_false, z, lim2, if_true, in_e2, e', r_endless (show 1 ≤ k by omega), conE, q, decide_true]
  cases a with
  | inf => exact hard _ _ (.inl rfl)
  | fin x => cases b with
    | inf => exact hard _ _ (.inr rfl)
    | fin y =>
      have e : emul (.fin x) (.fin y) = .fin (x * y) := by
        unfold emul
        split
        · rename_i c
          rcases c with c | c <;> injection c with c <;> subst c <;> simp
        · rfl
      rw [e]
      exact r_product hK ha hb l h
theorem r_lessE {K : Nat} (hK : 2 ≤ K) {a b : EQ} {n m : Nat} (ha : SzE n a) (hb : SzE m b) (l : n + m ≤ 9000) (h : MH) : runD K i_less [eD a, eD b] h = some (.bl (elt a b), h) := by
  cases a with
  | fin x => cases b with
    | fin y => exact r_less hK ha hb l h
    | inf =>
      obtain ⟨k, rfl⟩ : ∃ k, K = k + 1 := ⟨K - 1, by omega⟩
      rw [run_less _ _ _ rfl]
      simp only [b_less, fn_G, con_G, pat_G, ev, evs, evAnd, evOr, evTests, asgT, asgTs, evIt, exe, exes, outD, startD, ob, om, g_b, b_add, b_sub, u_abs, u_int, u_intb, u_max, u_min, c_lt, c_le, c_gt, c_ge, c_eq, c_ne, eqD_int, eqD_bl, ix_0, ix_1, ix_2, fr_0, fr_1, isN_non, isN_fr, isN_e, isN_str, isN_int, isN_tup, lD_none, lD_some, oD_none, oD_some, isAbs, partR, tgS, tgSs, wipeD, List.map_cons, List.map_nil, List.length_cons, List.length_nil, List.cons_append, List.nil_append, List.append_nil, List.getElem?_cons_zero, List.getElem?_cons_succ, List.set_cons_zero, List.set_cons_succ, List.replicate_succ, List.replicate_zero, Nat.zero_add, Nat.add_sub_cancel, Nat.reduceAdd, Nat.reduceSub, Bool.not_true, Bool.not_false, Bool.false_eq_true, if_false, r_endless (show 1 ≤ k by omega), reduceCtorEq, decide_true, decide_false, elt]
  | inf =>
    obtain ⟨k, rfl⟩ : ∃ k, K = k + 1 := ⟨K - 1, by omega⟩
    rw [run_less _ _ _ rfl]
    simp only [b_less, fn_G, con_G, pat_G, ev, evs, evAnd, evOr, evTests, asgT, asgTs, evIt, exe, exes, outD, startD, ob, om, g_b, b_add, b_sub, u_abs, u_int, u_intb, u_max, u_min, c_lt, c_le, c_gt, c_ge, c_eq, c_ne, eqD_int, eqD_bl, ix_0, ix_1, ix_2, fr_0, fr_1, isN_non, isN_fr, isN_e, isN_str, isN_int, isN_tup, lD_none, lD_some, oD_none, oD_some, isAbs, partR, tgS, tgSs, wipeD, List.map_cons, List.map_nil, List.length_cons, List.length_nil, List.cons_append, List.nil_append, List.append_nil, List.getElem?_cons_zero, List.getElem?_cons_succ, List.set_cons_zero, List.set_cons_succ, List.replicate_succ, List.replicate_zero, Nat.zero_add, Nat.add_sub_cancel, Nat.reduceAdd, Nat.reduceSub, Bool.not_true, Bool.not_false, Bool.false_eq_true, if_false, r_endless (show 1 ≤ k by omega), decide_true, elt]
theorem r_greater {K : Nat} (hK : 3 ≤ K) {a b : EQ} {n m : Nat} (ha : SzE n a) (hb : SzE m b) (l : n + m ≤ 9000) (h : MH) : runD K i_greater [eD a, eD b] h = some (eD (emax a b), h) := by
  obtain ⟨k, rfl⟩ : ∃ k, K = k + 1 := ⟨K - 1, by omega⟩
  rw [run_greater _ _ _ rfl]
  unfold emax
  cases e : elt a b <;> simp only [b_greater, fn_G, con_G, pat_G, ev, evs, evAnd, evOr, evTests, asgT, asgTs, evIt, exe, exes, outD, startD, ob, om, g_b, b_add, b_sub, u_abs, u_int, u_intb, u_max, u_min, c_lt, c_le, c_gt, c_ge, c_eq, c_ne, eqD_int, eqD_bl, ix_0, ix_1, ix_2, fr_0, fr_1, isN_non, isN_fr, isN_e, isN_str, isN_int, isN_tup, lD_none, lD_some, oD_none, oD_some, isAbs, partR, tgS, tgSs, wipeD, List.map_cons, List.map_nil, List.length_cons, List.length_nil, List.cons_append, List.nil_append, List.append_nil, List.getElem?_cons_zero, List.getElem?_cons_succ, List.set_cons_zero, List.set_cons_succ, List.replicate_succ, List.replicate_zero, Nat.zero_add, Nat.add_sub_cancel, Nat.reduceAdd, Nat.reduceSub, Bool.not_true, Bool.not_false, Bool.false_eq_true, if_false, r_lessE (show 2 ≤ k by omega) ha hb l, e, if_true, if_false, Bool.false_eq_true]
theorem r_lesser {K : Nat} (hK : 3 ≤ K) {a b : EQ} {n m : Nat} (ha : SzE n a) (hb : SzE m b) (l : n + m ≤ 9000) (h : MH) : runD K i_lesser [eD a, eD b] h = some (eD (emin a b), h) := by
  obtain ⟨k, rfl⟩ : ∃ k, K = k + 1 := ⟨K - 1, by omega⟩
  rw [run_lesser _ _ _ rfl]
  unfold emin
  cases e : elt a b <;> simp only [b_lesser, fn_G, con_G, pat_G, ev, evs, evAnd, evOr, evTests, asgT, asgTs, evIt, exe, exes, outD, startD, ob, om, g_b, b_add, b_sub, u_abs, u_int, u_intb, u_max, u_min, c_lt, c_le, c_gt, c_ge, c_eq, c_ne, eqD_int, eqD_bl, ix_0, ix_1, ix_2, fr_0, fr_1, isN_non, isN_fr, isN_e, isN_str, isN_int, isN_tup, lD_none, lD_some, oD_none, oD_some, isAbs, partR, tgS, tgSs, wipeD, List.map_cons, List.map_nil, List.length_cons, List.length_nil, List.cons_append, List.nil_append, List.append_nil, List.getElem?_cons_zero, List.getElem?_cons_succ, List.set_cons_zero, List.set_cons_succ, List.replicate_succ, List.replicate_zero, Nat.zero_add, Nat.add_sub_cancel, Nat.reduceAdd, Nat.reduceSub, Bool.not_true, Bool.not_false, Bool.false_eq_true, if_false, r_lessE (show 2 ≤ k by omega) ha hb l, e, if_true, if_false, Bool.false_eq_true]
/-! ### the law's own -/
theorem in_inf (h : MH) (a b : EQ) : cmpD .isin h (.str "endless") (.tup [eD a, eD b]) = some (decide (a = .inf) || decide (b = .inf)) := in_e2 h .inf a b
theorem eq_inf (h : MH) (a : EQ) : eqD h (eD a) (.str "endless") = some (decide (a = .inf)) := eqD_e h a .inf
theorem r_law_added {K : Nat} (hK : 4 ≤ K) {a b : EQ} {n m : Nat} (ha : SzE n a) (hb : SzE m b) (l : n + m ≤ 9000) (h : MH) : runD K i_law_added [eD a, eD b] h = some (eD (eadd a b), h) := by
  obtain ⟨k, rfl⟩ : ∃ k, K = k + 1 := ⟨K - 1, by omega⟩
  rw [run_law_added _ _ _ rfl]
  have lim2 : (0 + 1 + 1 ≤ LIM) = True := by simp [LIM]
  cases a with
  | fin x => cases b with
    | fin y =>
      have := r_law_plus (show 3 ≤ k by omega) ha hb l h
      have e : runD k i_law_plus [eD (.fin x), eD (.fin y)] h = some (eD (.fin (x + y)), h) := this
      simp only [b_law_added, fn_G, con_G, pat_G, ev, evs, evAnd, evOr, evTests, asgT, asgTs, evIt, exe, exes, outD, startD, ob, om, g_b, b_add, b_sub, u_abs, u_int, u_intb, u_max, u_min, c_lt, c_le, c_gt, c_ge, c_eq, c_ne, eqD_int, eqD_bl, ix_0, ix_1, ix_2, fr_0, fr_1, isN_non, isN_fr, isN_e, isN_str, isN_int, isN_tup, lD_none, lD_some, oD_none, oD_some, isAbs, partR, tgS, tgSs, wipeD, List.map_cons, List.map_nil, List.length_cons, List.length_nil, List.cons_append, List.nil_append, List.append_nil, List.getElem?_cons_zero, List.getElem?_cons_succ, List.set_cons_zero, List.set_cons_succ, List.replicate_succ, List.replicate_zero, Nat.zero_add, Nat.add_sub_cancel, Nat.reduceAdd, Nat.reduceSub, Bool.not_true, Bool.not_false, Bool.false_eq_true, if_false, lim2, if_true, in_inf, reduceCtorEq, decide_false, Bool.or_false, e, eadd]
    | inf =>
      simp only [b_law_added, fn_G, con_G, pat_G, ev, evs, evAnd, evOr, evTests, asgT, asgTs, evIt, exe, exes, outD, startD, ob, om, g_b, b_add, b_sub, u_abs, u_int, u_intb, u_max, u_min, c_lt, c_le, c_gt, c_ge, c_eq, c_ne, eqD_int, eqD_bl, ix_0, ix_1, ix_2, fr_0, fr_1, isN_non, isN_fr, isN_e, isN_str, isN_int, isN_tup, lD_none, lD_some, oD_none, oD_some, isAbs, partR, tgS, tgSs, wipeD, List.map_cons, List.map_nil, List.length_cons, List.length_nil, List.cons_append, List.nil_append, List.append_nil, List.getElem?_cons_zero, List.getElem?_cons_succ, List.set_cons_zero, List.set_cons_succ, List.replicate_succ, List.replicate_zero, Nat.zero_add, Nat.add_sub_cancel, Nat.reduceAdd, Nat.reduceSub, Bool.not_true, Bool.not_false, Bool.false_eq_true, if_false, lim2, if_true, in_inf, reduceCtorEq, decide_true, decide_false, Bool.or_true, eadd]
      rfl
  | inf =>
    simp only [b_law_added, fn_G, con_G, pat_G, ev, evs, evAnd, evOr, evTests, asgT, asgTs, evIt, exe, exes, outD, startD, ob, om, g_b, b_add, b_sub, u_abs, u_int, u_intb, u_max, u_min, c_lt, c_le, c_gt, c_ge, c_eq, c_ne, eqD_int, eqD_bl, ix_0, ix_1, ix_2, fr_0, fr_1, isN_non, isN_fr, isN_e, isN_str, isN_int, isN_tup, lD_none, lD_some, oD_none, oD_some, isAbs, partR, tgS, tgSs, wipeD, List.map_cons, List.map_nil, List.length_cons, List.length_nil, List.cons_append, List.nil_append, List.append_nil, List.getElem?_cons_zero, List.getElem?_cons_succ, List.set_cons_zero, List.set_cons_succ, List.replicate_succ, List.replicate_zero, Nat.zero_add, Nat.add_sub_cancel, Nat.reduceAdd, Nat.reduceSub, Bool.not_true, Bool.not_false, Bool.false_eq_true, if_false, lim2, if_true, in_inf, decide_true, Bool.true_or, eadd]
    rfl
theorem r_law_product {K : Nat} (hK : 4 ≤ K) {a b : EQ} {n m : Nat} (ha : SzE n a) (hb : SzE m b) (l : n + m ≤ 9000) (h : MH) : runD K i_law_product [eD a, eD b] h = some (eD (emul a b), h) := by
  obtain ⟨k, rfl⟩ : ∃ k, K = k + 1 := ⟨K - 1, by omega⟩
  rw [run_law_product _ _ _ rfl]
  have lim2 : (0 + 1 + 1 ≤ LIM) = True := by simp [LIM]
  by_cases e : a = .fin 0 ∨ b = .fin 0
  · have e' : (decide (a = .fin 0) || decide (b = .fin 0)) = true := by simpa using e
    simp only [b_law_product, fn_G, con_G, pat_G, ev, evs, evAnd, evOr, evTests, asgT, asgTs, evIt, exe, exes, outD, startD, ob, om, g_b, b_add, b_sub, u_abs, u_int, u_intb, u_max, u_min, c_lt, c_le, c_gt, c_ge, c_eq, c_ne, eqD_int, eqD_bl, ix_0, ix_1, ix_2, fr_0, fr_1, isN_non, isN_fr, isN_e, isN_str, isN_int, isN_tup, lD_none, lD_some, oD_none, oD_some, isAbs, partR, tgS, tgSs, wipeD, List.map_cons, List.map_nil, List.length_cons, List.length_nil, List.cons_append, List.nil_append, List.append_nil, List.getElem?_cons_zero, List.getElem?_cons_succ, List.set_cons_zero, List.set_cons_succ, List.replicate_succ, List.replicate_zero, Nat.zero_add, Nat.add_sub_cancel, Nat.reduceAdd, Nat.reduceSub, Bool.not_true, Bool.not_false, Bool.false_eq_true, if_false, lim2, if_true, eD0, in_e2, e', emul, e]
  · have e' : (decide (a = .fin 0) || decide (b = .fin 0)) = false := by simpa using e
    by_cases c : a = .inf ∨ b = .inf
    · have c' : (decide (a = .inf) || decide (b = .inf)) = true := by simpa using c
      have r : emul a b = .inf := by
        unfold emul
        rw [if_neg e]
        rcases c with rfl | rfl
        · rfl
        · cases a <;> rfl
      rw [r]
      simp only [b_law_product, fn_G, con_G, pat_G, ev, evs, evAnd, evOr, evTests, asgT, asgTs, evIt, exe, exes, outD, startD, ob, om, g_b, b_add, b_sub, u_abs, u_int, u_intb, u_max, u_min, c_lt, c_le, c_gt, c_ge, c_eq, c_ne, eqD_int, eqD_bl, ix_0, ix_1, ix_2, fr_0, fr_1, isN_non, isN_fr, isN_e, isN_str, isN_int, isN_tup, lD_none, lD_some, oD_none, oD_some, isAbs, partR, tgS, tgSs, wipeD, List.map_cons, List.map_nil, List.length_cons, List.length_nil, List.cons_append, List.nil_append, List.append_nil, List.getElem?_cons_zero, List.getElem?_cons_succ, List.set_cons_zero, List.set_cons_succ, List.replicate_succ, List.replicate_zero, Nat.zero_add, Nat.add_sub_cancel, Nat.reduceAdd, Nat.reduceSub, Bool.not_true, Bool.not_false, Bool.false_eq_true, if_false, lim2, if_true, eD0, in_e2, e', in_inf, c']
      rfl
    · have c' : (decide (a = .inf) || decide (b = .inf)) = false := by simpa using c
      cases a with
      | inf => exact absurd (.inl rfl) c
      | fin x => cases b with
        | inf => exact absurd (.inr rfl) c
        | fin y =>
          have q := r_law_times (show 3 ≤ k by omega) ha hb l h
          have q : runD k i_law_times [eD (.fin x), eD (.fin y)] h = some (eD (.fin (x * y)), h) := q
          have r : emul (.fin x) (.fin y) = .fin (x * y) := if_neg e
          rw [r]
          simp only [b_law_product, fn_G, con_G, pat_G, ev, evs, evAnd, evOr, evTests, asgT, asgTs, evIt, exe, exes, outD, startD, ob, om, g_b, b_add, b_sub, u_abs, u_int, u_intb, u_max, u_min, c_lt, c_le, c_gt, c_ge, c_eq, c_ne, eqD_int, eqD_bl, ix_0, ix_1, ix_2, fr_0, fr_1, isN_non, isN_fr, isN_e, isN_str, isN_int, isN_tup, lD_none, lD_some, oD_none, oD_some, isAbs, partR, tgS, tgSs, wipeD, List.map_cons, List.map_nil, List.length_cons, List.length_nil, List.cons_append, List.nil_append, List.append_nil, List.getElem?_cons_zero, List.getElem?_cons_succ, List.set_cons_zero, List.set_cons_succ, List.replicate_succ, List.replicate_zero, Nat.zero_add, Nat.add_sub_cancel, Nat.reduceAdd, Nat.reduceSub, Bool.not_true, Bool.not_false, Bool.false_eq_true, if_false, lim2, if_true, eD0, in_e2, e', in_inf, c', q]
theorem r_law_is_less {K : Nat} (hK : 2 ≤ K) {a b : EQ} {n m : Nat} (ha : SzE n a) (hb : SzE m b) (l : n + m ≤ 9000) (h : MH) : runD K i_law_is_less [eD a, eD b] h = some (.bl (elt a b), h) := by
  obtain ⟨k, rfl⟩ : ∃ k, K = k + 1 := ⟨K - 1, by omega⟩
  rw [run_law_is_less _ _ _ rfl]
  cases a with
  | fin x => cases b with
    | fin y =>
      have q := r_law_less (show 1 ≤ k by omega) ha hb l h
      have q : runD k i_law_less [eD (.fin x), eD (.fin y)] h = some (.bl (decide (x < y)), h) := q
      simp only [b_law_is_less, fn_G, con_G, pat_G, ev, evs, evAnd, evOr, evTests, asgT, asgTs, evIt, exe, exes, outD, startD, ob, om, g_b, b_add, b_sub, u_abs, u_int, u_intb, u_max, u_min, c_lt, c_le, c_gt, c_ge, c_eq, c_ne, eqD_int, eqD_bl, ix_0, ix_1, ix_2, fr_0, fr_1, isN_non, isN_fr, isN_e, isN_str, isN_int, isN_tup, lD_none, lD_some, oD_none, oD_some, isAbs, partR, tgS, tgSs, wipeD, List.map_cons, List.map_nil, List.length_cons, List.length_nil, List.cons_append, List.nil_append, List.append_nil, List.getElem?_cons_zero, List.getElem?_cons_succ, List.set_cons_zero, List.set_cons_succ, List.replicate_succ, List.replicate_zero, Nat.zero_add, Nat.add_sub_cancel, Nat.reduceAdd, Nat.reduceSub, Bool.not_true, Bool.not_false, Bool.false_eq_true, if_false, eq_inf, reduceCtorEq, decide_false, q, elt]
    | inf => simp only [b_law_is_less, fn_G, con_G, pat_G, ev, evs, evAnd, evOr, evTests, asgT, asgTs, evIt, exe, exes, outD, startD, ob, om, g_b, b_add, b_sub, u_abs, u_int, u_intb, u_max, u_min, c_lt, c_le, c_gt, c_ge, c_eq, c_ne, eqD_int, eqD_bl, ix_0, ix_1, ix_2, fr_0, fr_1, isN_non, isN_fr, isN_e, isN_str, isN_int, isN_tup, lD_none, lD_some, oD_none, oD_some, isAbs, partR, tgS, tgSs, wipeD, List.map_cons, List.map_nil, List.length_cons, List.length_nil, List.cons_append, List.nil_append, List.append_nil, List.getElem?_cons_zero, List.getElem?_cons_succ, List.set_cons_zero, List.set_cons_succ, List.replicate_succ, List.replicate_zero, Nat.zero_add, Nat.add_sub_cancel, Nat.reduceAdd, Nat.reduceSub, Bool.not_true, Bool.not_false, Bool.false_eq_true, if_false, eq_inf, reduceCtorEq, decide_false, decide_true, elt]
  | inf => simp only [b_law_is_less, fn_G, con_G, pat_G, ev, evs, evAnd, evOr, evTests, asgT, asgTs, evIt, exe, exes, outD, startD, ob, om, g_b, b_add, b_sub, u_abs, u_int, u_intb, u_max, u_min, c_lt, c_le, c_gt, c_ge, c_eq, c_ne, eqD_int, eqD_bl, ix_0, ix_1, ix_2, fr_0, fr_1, isN_non, isN_fr, isN_e, isN_str, isN_int, isN_tup, lD_none, lD_some, oD_none, oD_some, isAbs, partR, tgS, tgSs, wipeD, List.map_cons, List.map_nil, List.length_cons, List.length_nil, List.cons_append, List.nil_append, List.append_nil, List.getElem?_cons_zero, List.getElem?_cons_succ, List.set_cons_zero, List.set_cons_succ, List.replicate_succ, List.replicate_zero, Nat.zero_add, Nat.add_sub_cancel, Nat.reduceAdd, Nat.reduceSub, Bool.not_true, Bool.not_false, Bool.false_eq_true, if_false, eq_inf, decide_true, elt]
theorem r_law_most {K : Nat} (hK : 3 ≤ K) {a b : EQ} {n m : Nat} (ha : SzE n a) (hb : SzE m b) (l : n + m ≤ 9000) (h : MH) : runD K i_law_most [eD a, eD b] h = some (eD (emax a b), h) := by
  obtain ⟨k, rfl⟩ : ∃ k, K = k + 1 := ⟨K - 1, by omega⟩
  rw [run_law_most _ _ _ rfl]
  unfold emax
  cases e : elt a b <;> simp only [b_law_most, fn_G, con_G, pat_G, ev, evs, evAnd, evOr, evTests, asgT, asgTs, evIt, exe, exes, outD, startD, ob, om, g_b, b_add, b_sub, u_abs, u_int, u_intb, u_max, u_min, c_lt, c_le, c_gt, c_ge, c_eq, c_ne, eqD_int, eqD_bl, ix_0, ix_1, ix_2, fr_0, fr_1, isN_non, isN_fr, isN_e, isN_str, isN_int, isN_tup, lD_none, lD_some, oD_none, oD_some, isAbs, partR, tgS, tgSs, wipeD, List.map_cons, List.map_nil, List.length_cons, List.length_nil, List.cons_append, List.nil_append, List.append_nil, List.getElem?_cons_zero, List.getElem?_cons_succ, List.set_cons_zero, List.set_cons_succ, List.replicate_succ, List.replicate_zero, Nat.zero_add, Nat.add_sub_cancel, Nat.reduceAdd, Nat.reduceSub, Bool.not_true, Bool.not_false, Bool.false_eq_true, if_false, r_law_is_less (show 2 ≤ k by omega) ha hb l, e, if_true, if_false, Bool.false_eq_true]
theorem r_law_least {K : Nat} (hK : 3 ≤ K) {a b : EQ} {n m : Nat} (ha : SzE n a) (hb : SzE m b) (l : n + m ≤ 9000) (h : MH) : runD K i_law_least [eD a, eD b] h = some (eD (emin a b), h) := by
  obtain ⟨k, rfl⟩ : ∃ k, K = k + 1 := ⟨K - 1, by omega⟩
  rw [run_law_least _ _ _ rfl]
  unfold emin
  cases e : elt a b <;> simp only [b_law_least, fn_G, con_G, pat_G, ev, evs, evAnd, evOr, evTests, asgT, asgTs, evIt, exe, exes, outD, startD, ob, om, g_b, b_add, b_sub, u_abs, u_int, u_intb, u_max, u_min, c_lt, c_le, c_gt, c_ge, c_eq, c_ne, eqD_int, eqD_bl, ix_0, ix_1, ix_2, fr_0, fr_1, isN_non, isN_fr, isN_e, isN_str, isN_int, isN_tup, lD_none, lD_some, oD_none, oD_some, isAbs, partR, tgS, tgSs, wipeD, List.map_cons, List.map_nil, List.length_cons, List.length_nil, List.cons_append, List.nil_append, List.append_nil, List.getElem?_cons_zero, List.getElem?_cons_succ, List.set_cons_zero, List.set_cons_succ, List.replicate_succ, List.replicate_zero, Nat.zero_add, Nat.add_sub_cancel, Nat.reduceAdd, Nat.reduceSub, Bool.not_true, Bool.not_false, Bool.false_eq_true, if_false, r_law_is_less (show 2 ≤ k by omega) ha hb l, e, if_true, if_false, Bool.false_eq_true]

/-! ### curves and timings, on data -/
theorem r_is_fraction_n {K : Nat} (hK : 1 ≤ K) (h : MH) : runD K i_is_fraction [.str "endless"] h = some (.bl false, h) := by
  obtain ⟨k, rfl⟩ : ∃ k, K = k + 1 := ⟨K - 1, by omega⟩
  rw [run_is_fraction _ _ _ rfl]
  have q : L2.kitB (tyn (.str "endless")) "tuple" = some false := rfl
  simp only [b_is_fraction, fn_G, con_G, pat_G, ev, evs, evAnd, evOr, evTests, asgT, asgTs, evIt, exe, exes, outD, startD, ob, om, g_b, b_add, b_sub, u_abs, u_int, u_intb, u_max, u_min, c_lt, c_le, c_gt, c_ge, c_eq, c_ne, eqD_int, eqD_bl, ix_0, ix_1, ix_2, fr_0, fr_1, isN_non, isN_fr, isN_e, isN_str, isN_int, isN_tup, lD_none, lD_some, oD_none, oD_some, isAbs, partR, tgS, tgSs, wipeD, List.map_cons, List.map_nil, List.length_cons, List.length_nil, List.cons_append, List.nil_append, List.append_nil, List.getElem?_cons_zero, List.getElem?_cons_succ, List.set_cons_zero, List.set_cons_succ, List.replicate_succ, List.replicate_zero, Nat.zero_add, Nat.add_sub_cancel, Nat.reduceAdd, Nat.reduceSub, Bool.not_true, Bool.not_false, Bool.false_eq_true, if_false, q]
theorem r_is_point {K : Nat} (hK : 3 ≤ K) (p : Rat × Option Rat) (h : MH) : runD K i_is_point [ptD p] h = some (.bl true, h) := by
  obtain ⟨k, rfl⟩ : ∃ k, K = k + 1 := ⟨K - 1, by omega⟩
  rw [run_is_point _ _ _ rfl]
  have q1 : L2.kitB (tyn (ptD p)) "tuple" = some true := rfl
  have q3 : biD .len [ptD p] h = some (.int 2, h) := rfl
  have i0 : idxD h (ptD p) (.int 0) = some (frR p.1) := ix_0 ..
  have i1 : idxD h (ptD p) (.int 1) = some (oD p.2) := ix_1 ..
  cases e : p.2 with
  | none =>
    rw [e] at i1
    have i1 : idxD h (ptD p) (.int 1) = some .non := i1
    simp only [b_is_point, fn_G, con_G, pat_G, ev, evs, evAnd, evOr, evTests, asgT, asgTs, evIt, exe, exes, outD, startD, ob, om, g_b, b_add, b_sub, u_abs, u_int, u_intb, u_max, u_min, c_lt, c_le, c_gt, c_ge, c_eq, c_ne, eqD_int, eqD_bl, ix_0, ix_1, ix_2, fr_0, fr_1, isN_non, isN_fr, isN_e, isN_str, isN_int, isN_tup, lD_none, lD_some, oD_none, oD_some, isAbs, partR, tgS, tgSs, wipeD, List.map_cons, List.map_nil, List.length_cons, List.length_nil, List.cons_append, List.nil_append, List.append_nil, List.getElem?_cons_zero, List.getElem?_cons_succ, List.set_cons_zero, List.set_cons_succ, List.replicate_succ, List.replicate_zero, Nat.zero_add, Nat.add_sub_cancel, Nat.reduceAdd, Nat.reduceSub, Bool.not_true, Bool.not_false, Bool.false_eq_true, if_false, q1, q3, i0, i1, r_is_fraction (show 2 ≤ k by omega), decide_true]
  | some r =>
    rw [e] at i1
    have i1 : idxD h (ptD p) (.int 1) = some (frR r) := i1
    have n : isNone (frR r) = false := rfl
    simp only [b_is_point, fn_G, con_G, pat_G, ev, evs, evAnd, evOr, evTests, asgT, asgTs, evIt, exe, exes, outD, startD, ob, om, g_b, b_add, b_sub, u_abs, u_int, u_intb, u_max, u_min, c_lt, c_le, c_gt, c_ge, c_eq, c_ne, eqD_int, eqD_bl, ix_0, ix_1, ix_2, fr_0, fr_1, isN_non, isN_fr, isN_e, isN_str, isN_int, isN_tup, lD_none, lD_some, oD_none, oD_some, isAbs, partR, tgS, tgSs, wipeD, List.map_cons, List.map_nil, List.length_cons, List.length_nil, List.cons_append, List.nil_append, List.append_nil, List.getElem?_cons_zero, List.getElem?_cons_succ, List.set_cons_zero, List.set_cons_succ, List.replicate_succ, List.replicate_zero, Nat.zero_add, Nat.add_sub_cancel, Nat.reduceAdd, Nat.reduceSub, Bool.not_true, Bool.not_false, Bool.false_eq_true, if_false, q1, q3, i0, i1, r_is_fraction (show 2 ≤ k by omega), decide_true]
theorem bools_all {α : Type} : ∀ ps : List α, bools (ps.map fun _ => D.bl true) = some (ps.map fun _ => true)
  | [] => rfl
  | p :: r => by show (bools _).map _ = _; rw [bools_all r]; rfl
theorem all_true {α : Type} (ps : List α) : (ps.map fun _ => true).all id = true := by simp
theorem r_is_curve_c {K : Nat} (hK : 4 ≤ K) {m : Nat} (c : Cv) (o : CvOk m c) (h : MH) : ∃ h', runD K i_is_curve [cvD c] h = some (.bl true, h') ∧ Ap h h' := by
  obtain ⟨k, rfl⟩ : ∃ k, K = k + 1 := ⟨K - 1, by omega⟩
  rw [run_is_curve _ _ _ rfl]
  have lim : (0 ≤ LIM) = True := by simp
  have sE : ∀ (a b : Str) (r : Bool), PySem.PyData.strOk a = true → PySem.PyData.strOk b = true → (a == b) = r → ∀ h, eqD h (.str a) (.str b) = some r := s_eq
  cases c with
  | lin ps =>
    obtain ⟨nn, ln, _⟩ := o
    have q1 : L2.kitB (tyn (cvD (.lin ps))) "tuple" = some true := rfl
    have q2 : L2.kitB (tyn (.str "linear")) "str" = some true := rfl
    have q3 : biD .len [cvD (.lin ps)] h = some (.int 2, h) := rfl
    have i0 : idxD h (cvD (.lin ps)) (.int 0) = some (.str "linear") := ix_0 ..
    have i1 : idxD h (cvD (.lin ps)) (.int 1) = some (.tup (ps.map ptD)) := ix_1 ..
    have q4 : L2.kitB (tyn (.tup (ps.map ptD))) "tuple" = some true := rfl
    have c1 := sE "linear" "linear" true (by decide +kernel) (by decide +kernel) (by decide +kernel)
    have it : itemsD h (.tup (ps.map ptD)) = some (ps.map ptD) := rfl
    simp only [b_is_curve, fn_G, con_G, pat_G, ev, evs, evAnd, evOr, evTests, asgT, asgTs, evIt, exe, exes, outD, startD, ob, om, g_b, b_add, b_sub, u_abs, u_int, u_intb, u_max, u_min, c_lt, c_le, c_gt, c_ge, c_eq, c_ne, eqD_int, eqD_bl, ix_0, ix_1, ix_2, fr_0, fr_1, isN_non, isN_fr, isN_e, isN_str, isN_int, isN_tup, lD_none, lD_some, oD_none, oD_some, isAbs, partR, tgS, tgSs, wipeD, List.map_cons, List.map_nil, List.length_cons, List.length_nil, List.cons_append, List.nil_append, List.append_nil, List.getElem?_cons_zero, List.getElem?_cons_succ, List.set_cons_zero, List.set_cons_succ, List.replicate_succ, List.replicate_zero, Nat.zero_add, Nat.add_sub_cancel, Nat.reduceAdd, Nat.reduceSub, Bool.not_true, Bool.not_false, Bool.false_eq_true, if_false, q1, q2, q3, q4, i0, i1, lim, if_true, cv_nil, c1, decide_true, pts_nil nn, it, Option.isSome_some]
    generalize hf : lcL _ _ _ _ _ _ = X
    have X2 := lc_pure ptD (fun _ => D.bl true) hf ps (by simp [srcLen, it]) (fun i => rfl) (fun p _ => by simp only [fn_G, con_G, pat_G, ev, evs, evAnd, evOr, evTests, asgT, asgTs, evIt, exe, exes, outD, startD, ob, om, g_b, b_add, b_sub, u_abs, u_int, u_intb, u_max, u_min, c_lt, c_le, c_gt, c_ge, c_eq, c_ne, eqD_int, eqD_bl, ix_0, ix_1, ix_2, fr_0, fr_1, isN_non, isN_fr, isN_e, isN_str, isN_int, isN_tup, lD_none, lD_some, oD_none, oD_some, isAbs, partR, tgS, tgSs, wipeD, List.map_cons, List.map_nil, List.length_cons, List.length_nil, List.cons_append, List.nil_append, List.append_nil, List.getElem?_cons_zero, List.getElem?_cons_succ, List.set_cons_zero, List.set_cons_succ, List.replicate_succ, List.replicate_zero, Nat.zero_add, Nat.add_sub_cancel, Nat.reduceAdd, Nat.reduceSub, Bool.not_true, Bool.not_false, Bool.false_eq_true, if_false, r_is_point (show 3 ≤ k by omega)])
    clear hf
    subst X2
    have l2 : ((ps.map fun _ => D.bl true).length ≤ LIM) = True := by simp [LIM]; omega
    have al : biD .all [.ref h.length] (h ++ [ps.map fun _ => D.bl true]) = some (.bl true, h ++ [ps.map fun _ => D.bl true]) := by
      show ((h ++ [ps.map fun _ => D.bl true])[h.length]?).bind _ = _
      rw [get_app, ob, bools_all, om, all_true]
    simp only [fn_G, con_G, pat_G, ev, evs, evAnd, evOr, evTests, asgT, asgTs, evIt, exe, exes, outD, startD, ob, om, g_b, b_add, b_sub, u_abs, u_int, u_intb, u_max, u_min, c_lt, c_le, c_gt, c_ge, c_eq, c_ne, eqD_int, eqD_bl, ix_0, ix_1, ix_2, fr_0, fr_1, isN_non, isN_fr, isN_e, isN_str, isN_int, isN_tup, lD_none, lD_some, oD_none, oD_some, isAbs, partR, tgS, tgSs, wipeD, List.map_cons, List.map_nil, List.length_cons, List.length_nil, List.cons_append, List.nil_append, List.append_nil, List.getElem?_cons_zero, List.getElem?_cons_succ, List.set_cons_zero, List.set_cons_succ, List.replicate_succ, List.replicate_zero, Nat.zero_add, Nat.add_sub_cancel, Nat.reduceAdd, Nat.reduceSub, Bool.not_true, Bool.not_false, Bool.false_eq_true, if_false, l2, if_true, al]
    exact ⟨_, rfl, Ap.one _ _⟩
  | cub a b =>
    have q1 : L2.kitB (tyn (cvD (.cub a b))) "tuple" = some true := rfl
    have q2 : L2.kitB (tyn (.str "cubic")) "str" = some true := rfl
    have q3 : biD .len [cvD (.cub a b)] h = some (.int 3, h) := rfl
    have i0 : idxD h (cvD (.cub a b)) (.int 0) = some (.str "cubic") := ix_0 ..
    have i1 : idxD h (cvD (.cub a b)) (.int 1) = some (frR a) := ix_1 ..
    have i2 : idxD h (cvD (.cub a b)) (.int 2) = some (frR b) := ix_2 ..
    have c1 := sE "cubic" "linear" false (by decide +kernel) (by decide +kernel) (by decide +kernel)
    have c2 := sE "cubic" "cubic" true (by decide +kernel) (by decide +kernel) (by decide +kernel)
    simp only [b_is_curve, fn_G, con_G, pat_G, ev, evs, evAnd, evOr, evTests, asgT, asgTs, evIt, exe, exes, outD, startD, ob, om, g_b, b_add, b_sub, u_abs, u_int, u_intb, u_max, u_min, c_lt, c_le, c_gt, c_ge, c_eq, c_ne, eqD_int, eqD_bl, ix_0, ix_1, ix_2, fr_0, fr_1, isN_non, isN_fr, isN_e, isN_str, isN_int, isN_tup, lD_none, lD_some, oD_none, oD_some, isAbs, partR, tgS, tgSs, wipeD, List.map_cons, List.map_nil, List.length_cons, List.length_nil, List.cons_append, List.nil_append, List.append_nil, List.getElem?_cons_zero, List.getElem?_cons_succ, List.set_cons_zero, List.set_cons_succ, List.replicate_succ, List.replicate_zero, Nat.zero_add, Nat.add_sub_cancel, Nat.reduceAdd, Nat.reduceSub, Bool.not_true, Bool.not_false, Bool.false_eq_true, if_false, q1, q2, q3, i0, i1, i2, lim, if_true, cv_nil, c1, c2, decide_true, r_is_fraction (show 2 ≤ k by omega)]
    exact ⟨_, rfl, Ap.refl _⟩
  | stp n w =>
    obtain ⟨hn, _⟩ := o
    have q1 : L2.kitB (tyn (cvD (.stp n w))) "tuple" = some true := rfl
    have q2 : L2.kitB (tyn (.str "steps")) "str" = some true := rfl
    have q4 : L2.kitB (tyn (.str (wq w))) "str" = some true := rfl
    have q3 : biD .len [cvD (.stp n w)] h = some (.int 3, h) := rfl
    have i0 : idxD h (cvD (.stp n w)) (.int 0) = some (.str "steps") := ix_0 ..
    have i1 : idxD h (cvD (.stp n w)) (.int 1) = some (.int n) := ix_1 ..
    have i2 : idxD h (cvD (.stp n w)) (.int 2) = some (.str (wq w)) := ix_2 ..
    have c1 := sE "steps" "linear" false (by decide +kernel) (by decide +kernel) (by decide +kernel)
    have c2 := sE "steps" "cubic" false (by decide +kernel) (by decide +kernel) (by decide +kernel)
    have c3 := sE "steps" "steps" true (by decide +kernel) (by decide +kernel) (by decide +kernel)
    have hn' : decide (1 + (if wN w = true then (1 : Int) else 0) ≤ n) = true := decide_eq_true hn
    have cw : conD c_WHERES = .tup [.str "start", .str "end", .str "none", .str "both"] := rfl
    simp only [b_is_curve, fn_G, con_G, pat_G, ev, evs, evAnd, evOr, evTests, asgT, asgTs, evIt, exe, exes, outD, startD, ob, om, g_b, b_add, b_sub, u_abs, u_int, u_intb, u_max, u_min, c_lt, c_le, c_gt, c_ge, c_eq, c_ne, eqD_int, eqD_bl, ix_0, ix_1, ix_2, fr_0, fr_1, isN_non, isN_fr, isN_e, isN_str, isN_int, isN_tup, lD_none, lD_some, oD_none, oD_some, isAbs, partR, tgS, tgSs, wipeD, List.map_cons, List.map_nil, List.length_cons, List.length_nil, List.cons_append, List.nil_append, List.append_nil, List.getElem?_cons_zero, List.getElem?_cons_succ, List.set_cons_zero, List.set_cons_succ, List.replicate_succ, List.replicate_zero, Nat.zero_add, Nat.add_sub_cancel, Nat.reduceAdd, Nat.reduceSub, Bool.not_true, Bool.not_false, Bool.false_eq_true, if_false, q1, q2, q3, q4, i0, i1, i2, lim, if_true, cv_nil, c1, c2, c3, decide_true, r_is_whole (show 1 ≤ k by omega), cw, in_W, eq_no, hn']
    exact ⟨_, rfl, Ap.refl _⟩
theorem r_is_amount {K : Nat} (hK : 3 ≤ K) {a : EQ} (p : Pos a) (h : MH) : runD K i_is_amount [eD a] h = some (.bl (!decide (a = .inf)), h) := by
  obtain ⟨k, rfl⟩ : ∃ k, K = k + 1 := ⟨K - 1, by omega⟩
  rw [run_is_amount _ _ _ rfl]
  cases a with
  | fin r =>
    have n : decide ((0 : Int) ≤ r.num) = true := decide_eq_true (Rat.num_nonneg.mpr p)
    simp only [b_is_amount, fn_G, con_G, pat_G, ev, evs, evAnd, evOr, evTests, asgT, asgTs, evIt, exe, exes, outD, startD, ob, om, g_b, b_add, b_sub, u_abs, u_int, u_intb, u_max, u_min, c_lt, c_le, c_gt, c_ge, c_eq, c_ne, eqD_int, eqD_bl, ix_0, ix_1, ix_2, fr_0, fr_1, isN_non, isN_fr, isN_e, isN_str, isN_int, isN_tup, lD_none, lD_some, oD_none, oD_some, isAbs, partR, tgS, tgSs, wipeD, List.map_cons, List.map_nil, List.length_cons, List.length_nil, List.cons_append, List.nil_append, List.append_nil, List.getElem?_cons_zero, List.getElem?_cons_succ, List.set_cons_zero, List.set_cons_succ, List.replicate_succ, List.replicate_zero, Nat.zero_add, Nat.add_sub_cancel, Nat.reduceAdd, Nat.reduceSub, Bool.not_true, Bool.not_false, Bool.false_eq_true, if_false, eD, r_is_fraction (show 2 ≤ k by omega), n, reduceCtorEq, decide_false]
  | inf => simp only [b_is_amount, fn_G, con_G, pat_G, ev, evs, evAnd, evOr, evTests, asgT, asgTs, evIt, exe, exes, outD, startD, ob, om, g_b, b_add, b_sub, u_abs, u_int, u_intb, u_max, u_min, c_lt, c_le, c_gt, c_ge, c_eq, c_ne, eqD_int, eqD_bl, ix_0, ix_1, ix_2, fr_0, fr_1, isN_non, isN_fr, isN_e, isN_str, isN_int, isN_tup, lD_none, lD_some, oD_none, oD_some, isAbs, partR, tgS, tgSs, wipeD, List.map_cons, List.map_nil, List.length_cons, List.length_nil, List.cons_append, List.nil_append, List.append_nil, List.getElem?_cons_zero, List.getElem?_cons_succ, List.set_cons_zero, List.set_cons_succ, List.replicate_succ, List.replicate_zero, Nat.zero_add, Nat.add_sub_cancel, Nat.reduceAdd, Nat.reduceSub, Bool.not_true, Bool.not_false, Bool.false_eq_true, if_false, eD, r_is_fraction_n (show 1 ≤ k by omega), decide_true]
theorem r_is_timing {K : Nat} (hK : 5 ≤ K) {m : Nat} (T : Tm) (o : TmOk m T) (h : MH) : ∃ h', runD K i_is_timing [tmD T] h = some (.bl true, h') ∧ Ap h h' := by
  obtain ⟨k, rfl⟩ : ∃ k, K = k + 1 := ⟨K - 1, by omega⟩
  rw [run_is_timing _ _ _ rfl]
  have q1 : L2.kitB (tyn (tmD T)) "tuple" = some true := rfl
  have q2 : L2.kitB (tyn (.str (fw T.fill))) "str" = some true := rfl
  have q4 : L2.kitB (tyn (.str (ww T.way))) "str" = some true := rfl
  have q3 : biD .len [tmD T] h = some (.int 8, h) := rfl
  have i0 : idxD h (tmD T) (.int 0) = some (frR T.delay) := ix_0 ..
  have i1 : idxD h (tmD T) (.int 1) = some (frR T.behind) := ix_1 ..
  have it : itemsD h (tmD T) = some [frR T.delay, frR T.behind, .str (fw T.fill), frR T.first, eD T.many, lD T.len, .str (ww T.way), cvD T.cv] := rfl
  have cf : conD c_FILLS = .tup [.str "none", .str "forwards", .str "backwards", .str "both"] := rfl
  have cw : conD c_WAYS = .tup [.str "normal", .str "reverse", .str "alternate", .str "alternate reverse"] := rfl
  obtain ⟨h', ec, ap⟩ := r_is_curve_c (show 4 ≤ k by omega) T.cv o.cv h
  have a1 : runD k i_is_amount [frR T.first] h = some (.bl true, h) := r_is_amount (a := .fin T.first) (show 3 ≤ k by omega) o.first0 h
  have a2 := r_is_amount (show 3 ≤ k by omega) o.many0 h
  refine ⟨h', ?_, ap⟩
  have last : ∀ l, T.len = l → (∀ e, l = some e → SzE m e ∧ Pos e) → True := fun _ _ _ => trivial
  cases em : decide (T.many = .inf) <;> cases el : T.len with
  | none =>
    have n : isNone (lD none) = true := rfl
    simp only [b_is_timing, fn_G, con_G, pat_G, ev, evs, evAnd, evOr, evTests, asgT, asgTs, evIt, exe, exes, outD, startD, ob, om, g_b, b_add, b_sub, u_abs, u_int, u_intb, u_max, u_min, c_lt, c_le, c_gt, c_ge, c_eq, c_ne, eqD_int, eqD_bl, ix_0, ix_1, ix_2, fr_0, fr_1, isN_non, isN_fr, isN_e, isN_str, isN_int, isN_tup, lD_none, lD_some, oD_none, oD_some, isAbs, partR, tgS, tgSs, wipeD, List.map_cons, List.map_nil, List.length_cons, List.length_nil, List.cons_append, List.nil_append, List.append_nil, List.getElem?_cons_zero, List.getElem?_cons_succ, List.set_cons_zero, List.set_cons_succ, List.replicate_succ, List.replicate_zero, Nat.zero_add, Nat.add_sub_cancel, Nat.reduceAdd, Nat.reduceSub, Bool.not_true, Bool.not_false, Bool.false_eq_true, if_false, q1, q2, q3, q4, i0, i1, it, r_is_fraction (show 2 ≤ k by omega), decide_true, cf, cw, fw_in, ww_in, a1, a2, em, r_endless (show 1 ≤ k by omega), el, n, ec]
  | some e =>
    have n : isNone (lD (some e)) = false := by cases e <;> rfl
    have le : lD (some e) = eD e := rfl
    have a3 := r_is_amount (show 3 ≤ k by omega) (o.len e el).2 h
    have n' : isNone (eD e) = false := n
    cases ee : decide (e = .inf) <;>
      simp only [b_is_timing, fn_G, con_G, pat_G, ev, evs, evAnd, evOr, evTests, asgT, asgTs, evIt, exe, exes, outD, startD, ob, om, g_b, b_add, b_sub, u_abs, u_int, u_intb, u_max, u_min, c_lt, c_le, c_gt, c_ge, c_eq, c_ne, eqD_int, eqD_bl, ix_0, ix_1, ix_2, fr_0, fr_1, isN_non, isN_fr, isN_e, isN_str, isN_int, isN_tup, lD_none, lD_some, oD_none, oD_some, isAbs, partR, tgS, tgSs, wipeD, List.map_cons, List.map_nil, List.length_cons, List.length_nil, List.cons_append, List.nil_append, List.append_nil, List.getElem?_cons_zero, List.getElem?_cons_succ, List.set_cons_zero, List.set_cons_succ, List.replicate_succ, List.replicate_zero, Nat.zero_add, Nat.add_sub_cancel, Nat.reduceAdd, Nat.reduceSub, Bool.not_true, Bool.not_false, Bool.false_eq_true, if_false, q1, q2, q3, q4, i0, i1, it, r_is_fraction (show 2 ≤ k by omega), decide_true, cf, cw, fw_in, ww_in, a1, a2, em, r_endless (show 1 ≤ k by omega), el, le, n', a3, ee, ec]
theorem r_check_timing {K : Nat} (hK : 6 ≤ K) {m : Nat} (T : Tm) (o : TmOk m T) (h : MH) : ∃ h', runD K i_check_timing [tmD T] h = some (.non, h') ∧ Ap h h' := by
  obtain ⟨k, rfl⟩ : ∃ k, K = k + 1 := ⟨K - 1, by omega⟩
  rw [run_check_timing _ _ _ rfl]
  obtain ⟨h', e, ap⟩ := r_is_timing (show 5 ≤ k by omega) T o h
  exact ⟨h', by simp only [b_check_timing, fn_G, con_G, pat_G, ev, evs, evAnd, evOr, evTests, asgT, asgTs, evIt, exe, exes, outD, startD, ob, om, g_b, b_add, b_sub, u_abs, u_int, u_intb, u_max, u_min, c_lt, c_le, c_gt, c_ge, c_eq, c_ne, eqD_int, eqD_bl, ix_0, ix_1, ix_2, fr_0, fr_1, isN_non, isN_fr, isN_e, isN_str, isN_int, isN_tup, lD_none, lD_some, oD_none, oD_some, isAbs, partR, tgS, tgSs, wipeD, List.map_cons, List.map_nil, List.length_cons, List.length_nil, List.cons_append, List.nil_append, List.append_nil, List.getElem?_cons_zero, List.getElem?_cons_succ, List.set_cons_zero, List.set_cons_succ, List.replicate_succ, List.replicate_zero, Nat.zero_add, Nat.add_sub_cancel, Nat.reduceAdd, Nat.reduceSub, Bool.not_true, Bool.not_false, Bool.false_eq_true, if_false, e], ap⟩
theorem ix_n {h : MH} {xs : List D} {i : Nat} {x : D} (e : xs[i]? = some x) : idxD h (.tup xs) (.int i) = some x := atI_nat e
theorem tm_0 (h : MH) (T : Tm) : idxD h (tmD T) (.int 0) = some (frR T.delay) := ix_0 ..
theorem tm_1 (h : MH) (T : Tm) : idxD h (tmD T) (.int 1) = some (frR T.behind) := ix_1 ..
theorem tm_2 (h : MH) (T : Tm) : idxD h (tmD T) (.int 2) = some (.str (fw T.fill)) := ix_2 ..
theorem tm_3 (h : MH) (T : Tm) : idxD h (tmD T) (.int 3) = some (frR T.first) := ix_n (i := 3) rfl
theorem tm_4 (h : MH) (T : Tm) : idxD h (tmD T) (.int 4) = some (eD T.many) := ix_n (i := 4) rfl
theorem tm_5 (h : MH) (T : Tm) : idxD h (tmD T) (.int 5) = some (lD T.len) := ix_n (i := 5) rfl
theorem tm_6 (h : MH) (T : Tm) : idxD h (tmD T) (.int 6) = some (.str (ww T.way)) := ix_n (i := 6) rfl
theorem tm_7 (h : MH) (T : Tm) : idxD h (tmD T) (.int 7) = some (cvD T.cv) := ix_n (i := 7) rfl
theorem r_length_of {K : Nat} (hK : 1 ≤ K) (T : Tm) (h : MH) : runD K i_length_of [tmD T] h = some (eD (lenOf T), h) := by
  obtain ⟨k, rfl⟩ : ∃ k, K = k + 1 := ⟨K - 1, by omega⟩
  rw [run_length_of _ _ _ rfl]
  unfold lenOf
  cases el : T.len with
  | none =>
    have n : isNone (lD none) = true := rfl
    simp only [b_length_of, fn_G, con_G, pat_G, ev, evs, evAnd, evOr, evTests, asgT, asgTs, evIt, exe, exes, outD, startD, ob, om, g_b, b_add, b_sub, u_abs, u_int, u_intb, u_max, u_min, c_lt, c_le, c_gt, c_ge, c_eq, c_ne, eqD_int, eqD_bl, ix_0, ix_1, ix_2, fr_0, fr_1, isN_non, isN_fr, isN_e, isN_str, isN_int, isN_tup, lD_none, lD_some, oD_none, oD_some, isAbs, partR, tgS, tgSs, wipeD, List.map_cons, List.map_nil, List.length_cons, List.length_nil, List.cons_append, List.nil_append, List.append_nil, List.getElem?_cons_zero, List.getElem?_cons_succ, List.set_cons_zero, List.set_cons_succ, List.replicate_succ, List.replicate_zero, Nat.zero_add, Nat.add_sub_cancel, Nat.reduceAdd, Nat.reduceSub, Bool.not_true, Bool.not_false, Bool.false_eq_true, if_false, tm_5, el, n, con0]
    rfl
  | some e =>
    have n : isNone (lD (some e)) = false := by cases e <;> rfl
    simp only [b_length_of, fn_G, con_G, pat_G, ev, evs, evAnd, evOr, evTests, asgT, asgTs, evIt, exe, exes, outD, startD, ob, om, g_b, b_add, b_sub, u_abs, u_int, u_intb, u_max, u_min, c_lt, c_le, c_gt, c_ge, c_eq, c_ne, eqD_int, eqD_bl, ix_0, ix_1, ix_2, fr_0, fr_1, isN_non, isN_fr, isN_e, isN_str, isN_int, isN_tup, lD_none, lD_some, oD_none, oD_some, isAbs, partR, tgS, tgSs, wipeD, List.map_cons, List.map_nil, List.length_cons, List.length_nil, List.cons_append, List.nil_append, List.append_nil, List.getElem?_cons_zero, List.getElem?_cons_succ, List.set_cons_zero, List.set_cons_succ, List.replicate_succ, List.replicate_zero, Nat.zero_add, Nat.add_sub_cancel, Nat.reduceAdd, Nat.reduceSub, Bool.not_true, Bool.not_false, Bool.false_eq_true, if_false, tm_5, el, n]
    rfl
theorem r_active_length {K : Nat} (hK : 4 ≤ K) {m : Nat} {T : Tm} (o : TmOk m T) (m0 : 0 < m) (l : m ≤ 2000) (h : MH) : runD K i_active_length [tmD T] h = some (eD (actOf T), h) := by
  obtain ⟨k, rfl⟩ : ∃ k, K = k + 1 := ⟨K - 1, by omega⟩
  rw [run_active_length _ _ _ rfl]
  simp only [b_active_length, fn_G, con_G, pat_G, ev, evs, evAnd, evOr, evTests, asgT, asgTs, evIt, exe, exes, outD, startD, ob, om, g_b, b_add, b_sub, u_abs, u_int, u_intb, u_max, u_min, c_lt, c_le, c_gt, c_ge, c_eq, c_ne, eqD_int, eqD_bl, ix_0, ix_1, ix_2, fr_0, fr_1, isN_non, isN_fr, isN_e, isN_str, isN_int, isN_tup, lD_none, lD_some, oD_none, oD_some, isAbs, partR, tgS, tgSs, wipeD, List.map_cons, List.map_nil, List.length_cons, List.length_nil, List.cons_append, List.nil_append, List.append_nil, List.getElem?_cons_zero, List.getElem?_cons_succ, List.set_cons_zero, List.set_cons_succ, List.replicate_succ, List.replicate_zero, Nat.zero_add, Nat.add_sub_cancel, Nat.reduceAdd, Nat.reduceSub, Bool.not_true, Bool.not_false, Bool.false_eq_true, if_false, tm_4, r_length_of (show 1 ≤ k by omega), r_productE (show 3 ≤ k by omega) (lenOf_sz o m0) o.many (by omega)]
  rfl
def tripD (e : EQ × EQ × EQ) : D := .tup ([e.1, e.2.1, e.2.2].map eD)
theorem r_all_edges {K : Nat} (hK : 5 ≤ K) {m : Nat} {T : Tm} (o : TmOk m T) (m0 : 0 < m) (l : m ≤ 1000) (h : MH) : runD K i_all_edges [tmD T] h = some (tripD (edgT T), h) := by
  obtain ⟨k, rfl⟩ : ∃ k, K = k + 1 := ⟨K - 1, by omega⟩
  rw [run_all_edges _ _ _ rfl]
  have lim3 : (0 + 1 + 1 + 1 ≤ LIM) = True := by simp [LIM]
  have sd : SzE m (.fin T.delay) := o.delay
  have sb : SzE m (.fin T.behind) := o.behind
  have sa := actOf_sz o m0
  have z0 : SzE 1 (.fin 0) := Sz0
  have s1 := sd.add sa
  have s2 := s1.add sb
  have s3 : SzE (m + (m + m) + 1 + m + 1) (emax (eadd (eadd (.fin T.delay) (actOf T)) (.fin T.behind)) (.fin 0)) := s2.max (z0.mono (by omega))
  have e0 : conD c_ZERO = eD (.fin 0) := rfl
  have fd : frR T.delay = eD (.fin T.delay) := rfl
  have fb : frR T.behind = eD (.fin T.behind) := rfl
  have s4 := (sd.mono (show m ≤ m + (m + m) + 1 + m + 1 by omega)).min s3
  have s5 := (s1.mono (show m + (m + m) + 1 ≤ m + (m + m) + 1 + m + 1 by omega)).min s3
  have end_ : emax (eadd (eadd (.fin T.delay) (actOf T)) (.fin T.behind)) (.fin 0) = (edgT T).2.2 := by
    unfold edgT edg
    rw [emax_comm, eadd_comm]
  simp only [b_all_edges, fn_G, con_G, pat_G, ev, evs, evAnd, evOr, evTests, asgT, asgTs, evIt, exe, exes, outD, startD, ob, om, g_b, b_add, b_sub, u_abs, u_int, u_intb, u_max, u_min, c_lt, c_le, c_gt, c_ge, c_eq, c_ne, eqD_int, eqD_bl, ix_0, ix_1, ix_2, fr_0, fr_1, isN_non, isN_fr, isN_e, isN_str, isN_int, isN_tup, lD_none, lD_some, oD_none, oD_some, isAbs, partR, tgS, tgSs, wipeD, List.map_cons, List.map_nil, List.length_cons, List.length_nil, List.cons_append, List.nil_append, List.append_nil, List.getElem?_cons_zero, List.getElem?_cons_succ, List.set_cons_zero, List.set_cons_succ, List.replicate_succ, List.replicate_zero, Nat.zero_add, Nat.add_sub_cancel, Nat.reduceAdd, Nat.reduceSub, Bool.not_true, Bool.not_false, Bool.false_eq_true, if_false, tm_0, tm_1, r_active_length (show 4 ≤ k by omega) o m0 (by omega), fd, fb, e0, r_plusE (show 3 ≤ k by omega) sd sa (by omega), r_plusE (show 3 ≤ k by omega) s1 sb (by omega), r_greater (show 3 ≤ k by omega) s2 z0 (by omega), r_lesser (show 3 ≤ k by omega) sd s3 (by omega),
    r_greater (show 3 ≤ k by omega) s4 z0 (by omega), r_lesser (show 3 ≤ k by omega) s1 s3 (by omega), r_greater (show 3 ≤ k by omega) s5 z0 (by omega), lim3, if_true]
  rw [end_]
  show some (D.tup [eD (emax (emin (.fin T.delay) (edgT T).2.2) (.fin 0)), eD (emax (emin (eadd (.fin T.delay) (actOf T)) (edgT T).2.2) (.fin 0)), eD (edgT T).2.2], h) = _
  rw [emax_comm _ (.fin 0), emax_comm _ (.fin 0)]
  rfl
/-- the law's edges -/
theorem r_law_ends {K : Nat} (hK : 5 ≤ K) {m : Nat} {T : Tm} (o : TmOk m T) (m0 : 0 < m) (l : m ≤ 1000) (h : MH) : runD K i_law_ends [tmD T] h = some (.tup [eD (edgT T).1, eD (edgT T).2.1, eD (edgT T).2.2, eD (actOf T)], h) := by
  obtain ⟨k, rfl⟩ : ∃ k, K = k + 1 := ⟨K - 1, by omega⟩
  rw [run_law_ends _ _ _ rfl]
  have lim4 : (0 + 1 + 1 + 1 + 1 ≤ LIM) = True := by simp [LIM]
  have lim2 : (0 + 1 + 1 ≤ LIM) = True := by simp [LIM]
  have it : itemsD h (tmD T) = some [eD (.fin T.delay), eD (.fin T.behind), .str (fw T.fill), frR T.first, eD T.many, lD T.len, .str (ww T.way), cvD T.cv] := rfl
  have sd : SzE m (.fin T.delay) := o.delay
  have sb : SzE m (.fin T.behind) := o.behind
  have sl := lenOf_sz o m0
  have sa := actOf_sz o m0
  have z0 : SzE 1 (.fin 0) := Sz0
  have s1 := sd.add sa
  have s2 := sb.add s1
  have s3 : SzE (m + (m + (m + m) + 1) + 1) (edgT T).2.2 := (z0.mono (by omega)).max s2
  have s4 := (sd.mono (show m ≤ m + (m + (m + m) + 1) + 1 by omega)).min s3
  have s5 := (s1.mono (show m + (m + m) + 1 ≤ m + (m + (m + m) + 1) + 1 by omega)).min s3
  have pr := r_law_product (show 4 ≤ k by omega) sl o.many (by omega) h
  have ee : emax (.fin 0) (eadd (.fin T.behind) (eadd (.fin T.delay) (actOf T))) = (edgT T).2.2 := rfl
  have pr : runD k i_law_product [eD (lenOf T), eD T.many] h = some (eD (actOf T), h) := pr
  have len : ∀ c : Bool, c = isNone (lD T.len) → (match c with | true => some (eD (.fin 0), h) | false => some (lD T.len, h)) = some (eD (lenOf T), h) := by
    intro c e
    subst e
    unfold lenOf
    cases T.len with
    | none => rfl
    | some e => cases e <;> rfl
  cases el : T.len with
  | none =>
    have l0 : lenOf T = .fin 0 := by unfold lenOf; rw [el]; rfl
    rw [l0] at pr
    have n : isNone (lD none) = true := rfl
    simp only [b_law_ends, fn_G, con_G, pat_G, ev, evs, evAnd, evOr, evTests, asgT, asgTs, evIt, exe, exes, outD, startD, ob, om, g_b, b_add, b_sub, u_abs, u_int, u_intb, u_max, u_min, c_lt, c_le, c_gt, c_ge, c_eq, c_ne, eqD_int, eqD_bl, ix_0, ix_1, ix_2, fr_0, fr_1, isN_non, isN_fr, isN_e, isN_str, isN_int, isN_tup, lD_none, lD_some, oD_none, oD_some, isAbs, partR, tgS, tgSs, wipeD, List.map_cons, List.map_nil, List.length_cons, List.length_nil, List.cons_append, List.nil_append, List.append_nil, List.getElem?_cons_zero, List.getElem?_cons_succ, List.set_cons_zero, List.set_cons_succ, List.replicate_succ, List.replicate_zero, Nat.zero_add, Nat.add_sub_cancel, Nat.reduceAdd, Nat.reduceSub, Bool.not_true, Bool.not_false, Bool.false_eq_true, if_false, it, el, n, lim2, lim4, if_true, eD0, pr, r_law_added (show 4 ≤ k by omega) sd sa (by omega), r_law_added (show 4 ≤ k by omega) sb s1 (by omega), r_law_most (show 3 ≤ k by omega) z0 s2 (by omega), ee, r_law_least (show 3 ≤ k by omega) sd s3 (by omega), r_law_least (show 3 ≤ k by omega) s1 s3 (by omega),
      r_law_most (show 3 ≤ k by omega) z0 s4 (by omega), r_law_most (show 3 ≤ k by omega) z0 s5 (by omega)]
    rfl
  | some e =>
    have l0 : lenOf T = e := by unfold lenOf; rw [el]; rfl
    rw [l0] at pr
    have n : isNone (eD e) = false := by cases e <;> rfl
    have le : lD (some e) = eD e := rfl
    simp only [b_law_ends, fn_G, con_G, pat_G, ev, evs, evAnd, evOr, evTests, asgT, asgTs, evIt, exe, exes, outD, startD, ob, om, g_b, b_add, b_sub, u_abs, u_int, u_intb, u_max, u_min, c_lt, c_le, c_gt, c_ge, c_eq, c_ne, eqD_int, eqD_bl, ix_0, ix_1, ix_2, fr_0, fr_1, isN_non, isN_fr, isN_e, isN_str, isN_int, isN_tup, lD_none, lD_some, oD_none, oD_some, isAbs, partR, tgS, tgSs, wipeD, List.map_cons, List.map_nil, List.length_cons, List.length_nil, List.cons_append, List.nil_append, List.append_nil, List.getElem?_cons_zero, List.getElem?_cons_succ, List.set_cons_zero, List.set_cons_succ, List.replicate_succ, List.replicate_zero, Nat.zero_add, Nat.add_sub_cancel, Nat.reduceAdd, Nat.reduceSub, Bool.not_true, Bool.not_false, Bool.false_eq_true, if_false, it, el, le, n, lim2, lim4, if_true, eD0, pr, r_law_added (show 4 ≤ k by omega) sd sa (by omega), r_law_added (show 4 ≤ k by omega) sb s1 (by omega), r_law_most (show 3 ≤ k by omega) z0 s2 (by omega), ee, r_law_least (show 3 ≤ k by omega) sd s3 (by omega), r_law_least (show 3 ≤ k by omega) s1 s3 (by omega),
      r_law_most (show 3 ≤ k by omega) z0 s4 (by omega), r_law_most (show 3 ≤ k by omega) z0 s5 (by omega)]
    rfl

/-! ### drawn curves and timings -/
theorem wq_mem {d : D} (m : d ∈ [D.str "start", .str "end", .str "none", .str "both"]) : ∃ w, d = .str (wq w) := by
  simp only [List.mem_cons, List.not_mem_nil, or_false] at m
  rcases m with rfl | rfl | rfl | rfl
  · exact ⟨.st, rfl⟩
  · exact ⟨.en, rfl⟩
  · exact ⟨.no, rfl⟩
  · exact ⟨.bo, rfl⟩
theorem r_law_curve {K : Nat} (hK : 5 ≤ K) {s : Nat} {h : MH} (H : SrcH h s) : ∃ (c : Cv) (h' : MH), runD K i_law_curve [.ref s] h = some (cvD c, h') ∧ Dr s h h' ∧ CvOk 31 c := by
  obtain ⟨k, rfl⟩ : ∃ k, K = k + 1 := ⟨K - 1, by omega⟩
  have kk : 2 ≤ k := by omega
  rw [run_law_curve _ _ _ rfl]
  have lim0 : (0 ≤ LIM) = True := by simp [LIM]
  have lim2 : (0 + 1 + 1 ≤ LIM) = True := by simp [LIM]
  have lim3 : (0 + 1 + 1 + 1 ≤ LIM) = True := by simp [LIM]
  have lim4 : (0 + 1 + 1 + 1 + 1 ≤ LIM) = True := by simp [LIM]
  obtain ⟨w, h1, e1, w0, w1, D1⟩ := r_law_next' kk H 6 (by decide) (by decide)
  by_cases c0 : w < 2
  · refine ⟨.lin [(0, some 0), (1, some 1)], h1, ?_, D1, by simp, by simp, ?_⟩
    · simp only [b_law_curve, fn_G, con_G, pat_G, ev, evs, evAnd, evOr, evTests, asgT, asgTs, evIt, exe, exes, outD, startD, ob, om, g_b, b_add, b_sub, u_abs, u_int, u_intb, u_max, u_min, c_lt, c_le, c_gt, c_ge, c_eq, c_ne, eqD_int, eqD_bl, ix_0, ix_1, ix_2, fr_0, fr_1, isN_non, isN_fr, isN_e, isN_str, isN_int, isN_tup, lD_none, lD_some, oD_none, oD_some, isAbs, partR, tgS, tgSs, wipeD, List.map_cons, List.map_nil, List.length_cons, List.length_nil, List.cons_append, List.nil_append, List.append_nil, List.getElem?_cons_zero, List.getElem?_cons_succ, List.set_cons_zero, List.set_cons_succ, List.replicate_succ, List.replicate_zero, Nat.zero_add, Nat.add_sub_cancel, Nat.reduceAdd, Nat.reduceSub, Bool.not_true, Bool.not_false, Bool.false_eq_true, if_false, e1, c0, decide_true, lim2, if_true]
      rfl
    · intro p m
      simp only [List.mem_cons, List.not_mem_nil, or_false] at m
      rcases m with rfl | rfl
      · exact ⟨Sz0.mono (by decide), fun r z => by cases z; exact Sz0.mono (by decide)⟩
      · exact ⟨Sz1.mono (by decide), fun r z => by cases z; exact Sz1.mono (by decide)⟩
  · by_cases c1 : w = 2
    · have n1 : h1.length ≠ s := by have := D1.1.lt; omega
      obtain ⟨u, h3, e3, u0, u1, D3⟩ := r_law_next' kk (D1.1.app [[]]) 5 (by decide) (by decide)
      have g3 : h3[h1.length]? = some ([].map ptD) := D3.keep (get_app _ _) n1
      have D3' : Dr s h1 h3 := ((Dr.refl D1.1).app [[]]).trans D3
      have rN : okR (1 + u) = true := okR_of (by omega) (by omega)
      simp only [b_law_curve, fn_G, con_G, pat_G, ev, evs, evAnd, evOr, evTests, asgT, asgTs, evIt, exe, exes, outD, startD, ob, om, g_b, b_add, b_sub, u_abs, u_int, u_intb, u_max, u_min, c_lt, c_le, c_gt, c_ge, c_eq, c_ne, eqD_int, eqD_bl, ix_0, ix_1, ix_2, fr_0, fr_1, isN_non, isN_fr, isN_e, isN_str, isN_int, isN_tup, lD_none, lD_some, oD_none, oD_some, isAbs, partR, tgS, tgSs, wipeD, List.map_cons, List.map_nil, List.length_cons, List.length_nil, List.cons_append, List.nil_append, List.append_nil, List.getElem?_cons_zero, List.getElem?_cons_succ, List.set_cons_zero, List.set_cons_succ, List.replicate_succ, List.replicate_zero, Nat.zero_add, Nat.add_sub_cancel, Nat.reduceAdd, Nat.reduceSub, Bool.not_true, Bool.not_false, Bool.false_eq_true, if_false, e1, c0, decide_eq_true c1, decide_false, lim0, if_true, e3, rN]
      generalize hf : forL _ _ _ _ _ _ = X
      have X1 := for_of hf (fun i σ h' => Dr s h1 h' ∧ ∃ (ps : List (Rat × Option Rat)) (o3 o5 : Option D), σ = [some (.ref s), some (.int w), some (.ref h1.length), o3, none, o5] ∧ h'[h1.length]? = some (ps.map ptD) ∧ ps.length = i ∧ ∀ p ∈ ps, PtOk 31 p) (1 + u).toNat
        ⟨D3', [], _, _, rfl, g3, rfl, fun p m => by cases m⟩ (Nat.zero_le _) (by show (1 + u).toNat < (1 + u).toNat + 1 + 0; omega) (fun σ h p => congrArg some (if_neg (by omega)))
      clear hf
      obtain ⟨σ', h', e4, D4, ps, o3, o5, rfl, g4, l4, z4⟩ := X1 (by
        clear X1
        rintro i σ h4 li ⟨D4, ps, o3, o5, rfl, g4, l4, z4⟩
        obtain ⟨a, h5, e5, a0, a1, D5⟩ := r_law_next' kk D4.1 9 (by decide) (by decide)
        have e6 := r_law_ratio kk a 8 h5 (by decide) (s60 (by decide))
        have z6 : Sz 31 (Rat.divInt a 8) := Sz.divInt (by omega) (by decide) (by decide)
        generalize Rat.divInt a 8 = r6 at e6 z6
        obtain ⟨r7, h7, e7, D7, z7⟩ := r_law_any (show 4 ≤ k by omega) D5.1
        obtain ⟨v, h8, e8, v0, v1, D8⟩ := r_law_next' kk (D7.1.app [[.non, .non, frR r6, frR r7]]) 4 (by decide) (by decide)
        obtain ⟨d, md, e9⟩ := pick D7.1 D8 v0 v1
        obtain ⟨t, rfl, zt⟩ : ∃ t : Option Rat, d = oD t ∧ ∀ r, t = some r → Sz 31 r := by
          simp only [List.mem_cons, List.not_mem_nil, or_false] at md
          rcases md with rfl | rfl | rfl | rfl
          · exact ⟨none, rfl, fun r z => by cases z⟩
          · exact ⟨none, rfl, fun r z => by cases z⟩
          · exact ⟨some r6, rfl, fun r z => by cases z; exact z6⟩
          · exact ⟨some r7, rfl, fun r z => by cases z; exact z7⟩
        obtain ⟨b, h9, e10, b0, b1, D9⟩ := r_law_next' kk D8.1 13 (by decide) (by decide)
        have e11 := r_law_ratio kk (b - 2) 8 h9 (by decide) (s60 (by decide))
        have z11 : Sz 31 (Rat.divInt (b - 2) 8) := Sz.divInt (by omega) (by decide) (by decide)
        generalize Rat.divInt (b - 2) 8 = r11 at e11 z11
        have DD : Dr s h4 h9 := (((D5.trans D7).app [[.non, .non, frR r6, frR r7]]).trans D8).trans D9
        have g9 : h9[h1.length]? = some (ps.map ptD) := DD.keep g4 n1
        have ap : appD h9 (.ref h1.length) (.tup [frR r11, oD t]) = some (h9.set h1.length ((ps ++ [(r11, t)]).map ptD)) := by
          show (h9[h1.length]?).bind _ = _
          rw [g9, ob, if_pos (by rw [List.length_map, l4]; exact Nat.le_trans (show i ≤ 5 by omega) (by decide)), List.map_append]
          rfl
        refine ⟨.int (0 + (i : Int)), ?_⟩
        simp only [fn_G, con_G, pat_G, ev, evs, evAnd, evOr, evTests, asgT, asgTs, evIt, exe, exes, outD, startD, ob, om, g_b, b_add, b_sub, u_abs, u_int, u_intb, u_max, u_min, c_lt, c_le, c_gt, c_ge, c_eq, c_ne, eqD_int, eqD_bl, ix_0, ix_1, ix_2, fr_0, fr_1, isN_non, isN_fr, isN_e, isN_str, isN_int, isN_tup, lD_none, lD_some, oD_none, oD_some, isAbs, partR, tgS, tgSs, wipeD, List.map_cons, List.map_nil, List.length_cons, List.length_nil, List.cons_append, List.nil_append, List.append_nil, List.getElem?_cons_zero, List.getElem?_cons_succ, List.set_cons_zero, List.set_cons_succ, List.replicate_succ, List.replicate_zero, Nat.zero_add, Nat.add_sub_cancel, Nat.reduceAdd, Nat.reduceSub, Bool.not_true, Bool.not_false, Bool.false_eq_true, if_false, e5, e6, e7, lim4, if_true, e8, e9, e10, e11, lim2, ap]
        refine ⟨_, _, congrArg some (if_pos li), rfl, (D4.trans DD).setNew (Nat.le_refl _) n1 _, ps ++ [(r11, t)], _, _, rfl, List.getElem?_set_self (List.getElem?_eq_some_iff.mp g9).1, by simp [l4], fun p m => ?_⟩
        rcases List.mem_append.mp m with m | m
        · exact z4 p m
        · cases List.mem_singleton.mp m
          exact ⟨z11, zt⟩)
      subst e4
      have tp : biD .tuple [.ref h1.length] h' = some (.tup (ps.map ptD), h') := by
        show (h'[h1.length]?).map _ = _
        rw [g4]; rfl
      refine ⟨.lin ps, h', ?_, D1.trans D4, ?_, by omega, z4⟩
      · simp only [fn_G, con_G, pat_G, ev, evs, evAnd, evOr, evTests, asgT, asgTs, evIt, exe, exes, outD, startD, ob, om, g_b, b_add, b_sub, u_abs, u_int, u_intb, u_max, u_min, c_lt, c_le, c_gt, c_ge, c_eq, c_ne, eqD_int, eqD_bl, ix_0, ix_1, ix_2, fr_0, fr_1, isN_non, isN_fr, isN_e, isN_str, isN_int, isN_tup, lD_none, lD_some, oD_none, oD_some, isAbs, partR, tgS, tgSs, wipeD, List.map_cons, List.map_nil, List.length_cons, List.length_nil, List.cons_append, List.nil_append, List.append_nil, List.getElem?_cons_zero, List.getElem?_cons_succ, List.set_cons_zero, List.set_cons_succ, List.replicate_succ, List.replicate_zero, Nat.zero_add, Nat.add_sub_cancel, Nat.reduceAdd, Nat.reduceSub, Bool.not_true, Bool.not_false, Bool.false_eq_true, if_false, tp, lim2, if_true]
        rfl
      · intro z
        rw [z] at l4
        simp at l4
        omega
    · by_cases c2 : w < 5
      · obtain ⟨d, h2, e2, md, D2⟩ := r_law_one (show 3 ≤ k by omega) D1.1 (x := .tup [.str "start", .str "end", .str "none", .str "both"]) rfl (fun _ _ => rfl) (by simp) (by simp)
        obtain ⟨q, rfl⟩ := wq_mem md
        obtain ⟨v, h3, e3, v0, v1, D3⟩ := r_law_next' kk D2.1 5 (by decide) (by decide)
        refine ⟨.stp (1 + (if wN q = true then 1 else 0) + v) q, h3, ?_, (D1.trans D2).trans D3, by unfold b01; omega, by split <;> omega⟩
        simp only [b_law_curve, fn_G, con_G, pat_G, ev, evs, evAnd, evOr, evTests, asgT, asgTs, evIt, exe, exes, outD, startD, ob, om, g_b, b_add, b_sub, u_abs, u_int, u_intb, u_max, u_min, c_lt, c_le, c_gt, c_ge, c_eq, c_ne, eqD_int, eqD_bl, ix_0, ix_1, ix_2, fr_0, fr_1, isN_non, isN_fr, isN_e, isN_str, isN_int, isN_tup, lD_none, lD_some, oD_none, oD_some, isAbs, partR, tgS, tgSs, wipeD, List.map_cons, List.map_nil, List.length_cons, List.length_nil, List.cons_append, List.nil_append, List.append_nil, List.getElem?_cons_zero, List.getElem?_cons_succ, List.set_cons_zero, List.set_cons_succ, List.replicate_succ, List.replicate_zero, Nat.zero_add, Nat.add_sub_cancel, Nat.reduceAdd, Nat.reduceSub, Bool.not_true, Bool.not_false, Bool.false_eq_true, if_false, e1, c0, c1, c2, decide_true, decide_false, lim4, lim3, if_true, e2, eq_no, e3]
        rfl
      · obtain ⟨a, h2, e2, a0, a1, D2⟩ := r_law_next' kk D1.1 13 (by decide) (by decide)
        have e3 := r_law_ratio kk (a - 4) 4 h2 (by decide) (s60 (by decide))
        have z3 : Sz 31 (Rat.divInt (a - 4) 4) := Sz.divInt (by omega) (by decide) (by decide)
        generalize Rat.divInt (a - 4) 4 = r3 at e3 z3
        obtain ⟨b, h4, e4, b0, b1, D4⟩ := r_law_next' kk D2.1 13 (by decide) (by decide)
        have e5 := r_law_ratio kk (b - 4) 4 h4 (by decide) (s60 (by decide))
        have z5 : Sz 31 (Rat.divInt (b - 4) 4) := Sz.divInt (by omega) (by decide) (by decide)
        generalize Rat.divInt (b - 4) 4 = r5 at e5 z5
        refine ⟨.cub r3 r5, h4, ?_, (D1.trans D2).trans D4, z3, z5⟩
        simp only [b_law_curve, fn_G, con_G, pat_G, ev, evs, evAnd, evOr, evTests, asgT, asgTs, evIt, exe, exes, outD, startD, ob, om, g_b, b_add, b_sub, u_abs, u_int, u_intb, u_max, u_min, c_lt, c_le, c_gt, c_ge, c_eq, c_ne, eqD_int, eqD_bl, ix_0, ix_1, ix_2, fr_0, fr_1, isN_non, isN_fr, isN_e, isN_str, isN_int, isN_tup, lD_none, lD_some, oD_none, oD_some, isAbs, partR, tgS, tgSs, wipeD, List.map_cons, List.map_nil, List.length_cons, List.length_nil, List.cons_append, List.nil_append, List.append_nil, List.getElem?_cons_zero, List.getElem?_cons_succ, List.set_cons_zero, List.set_cons_succ, List.replicate_succ, List.replicate_zero, Nat.zero_add, Nat.add_sub_cancel, Nat.reduceAdd, Nat.reduceSub, Bool.not_true, Bool.not_false, Bool.false_eq_true, if_false, e1, c0, c1, c2, decide_false, lim3, if_true, e2, e3, e4, e5]
        rfl
theorem frI (i : Int) : (D.tup [.int i, .int 1]) = frR (i : Rat) := rfl
theorem r_law_timing {K : Nat} (hK : 6 ≤ K) {s : Nat} {h : MH} (H : SrcH h s) : ∃ (T : Tm) (h' : MH), runD K i_law_timing [.ref s] h = some (tmD T, h') ∧ Dr s h h' ∧ TmOk 31 T := by
  obtain ⟨k, rfl⟩ : ∃ k, K = k + 1 := ⟨K - 1, by omega⟩
  have kk : 2 ≤ k := by omega
  rw [run_law_timing _ _ _ rfl]
  have lim2 : (0 + 1 + 1 ≤ LIM) = True := by simp [LIM]
  have lim3 : (0 + 1 + 1 + 1 ≤ LIM) = True := by simp [LIM]
  have lim4 : (0 + 1 + 1 + 1 + 1 ≤ LIM) = True := by simp [LIM]
  have lim5 : (0 + 1 + 1 + 1 + 1 + 1 ≤ LIM) = True := by simp [LIM]
  have lim6 : (0 + 1 + 1 + 1 + 1 + 1 + 1 ≤ LIM) = True := by simp [LIM]
  have lim8 : (0 + 1 + 1 + 1 + 1 + 1 + 1 + 1 + 1 ≤ LIM) = True := by simp [LIM]
  have f0 : D.tup [.int 0, .int 1] = frR 0 := rfl
  have f1 : D.tup [.int 1, .int 1] = frR 1 := rfl
  have f3 : D.tup [.int 3, .int 1] = frR 3 := rfl
  have f4 : D.tup [.int 4, .int 1] = frR 4 := rfl
  have f10 : D.tup [.int 10, .int 1] = frR 10 := rfl
  have z0 : Sz 31 (0 : Rat) := Sz0.mono (by decide)
  have z1 : Sz 31 (1 : Rat) := Sz1.mono (by decide)
  obtain ⟨ra, h1, e1, D1, za⟩ := r_law_any (show 4 ≤ k by omega) H
  obtain ⟨v2, h2, e2, v20, v21, D2⟩ := r_law_next' kk (D1.1.app [[frR 0, frR 0, frR ra]]) 3 (by decide) (by decide)
  obtain ⟨d2, m2, p2⟩ := pick D1.1 D2 v20 v21
  obtain ⟨delay, rfl, zd⟩ : ∃ r, d2 = frR r ∧ Sz 31 r := by
    simp only [List.mem_cons, List.not_mem_nil, or_false] at m2
    rcases m2 with rfl | rfl | rfl <;> exact ⟨_, rfl, by assumption⟩
  have E2 : Dr s h h2 := (D1.app _).trans D2
  obtain ⟨rb, h3, e3, D3, zb⟩ := r_law_any (show 4 ≤ k by omega) E2.1
  obtain ⟨v4, h4, e4, v40, v41, D4⟩ := r_law_next' kk (D3.1.app [[frR 0, frR 0, frR rb]]) 3 (by decide) (by decide)
  obtain ⟨d4, m4, p4⟩ := pick D3.1 D4 v40 v41
  obtain ⟨behind, rfl, zbh⟩ : ∃ r, d4 = frR r ∧ Sz 31 r := by
    simp only [List.mem_cons, List.not_mem_nil, or_false] at m4
    rcases m4 with rfl | rfl | rfl <;> exact ⟨_, rfl, by assumption⟩
  have E4 : Dr s h h4 := (E2.trans D3).app _ |>.trans D4
  obtain ⟨df, h5, e5, mf, D5⟩ := r_law_one (show 3 ≤ k by omega) E4.1 (x := .tup [.str "none", .str "forwards", .str "backwards", .str "both"]) rfl (fun _ _ => rfl) (by simp) (by simp)
  obtain ⟨fill, rfl⟩ : ∃ f, df = .str (fw f) := by
    simp only [List.mem_cons, List.not_mem_nil, or_false] at mf
    rcases mf with rfl | rfl | rfl | rfl
    · exact ⟨.no, rfl⟩
    · exact ⟨.fo, rfl⟩
    · exact ⟨.ba, rfl⟩
    · exact ⟨.bo, rfl⟩
  obtain ⟨n6, h6, e6, n60, n61, D6⟩ := r_law_next' kk D5.1 9 (by decide) (by decide)
  have e7 := r_law_ratio kk n6 4 h6 (by decide) (s60 (by decide))
  have z7 : Sz 31 (Rat.divInt n6 4) := Sz.divInt (by omega) (by decide) (by decide)
  have p7 : 0 ≤ Rat.divInt n6 4 := Rat.divInt_nonneg n60 (by decide)
  generalize Rat.divInt n6 4 = r7 at e7 z7 p7
  obtain ⟨v8, h8, e8, v80, v81, D8⟩ := r_law_next' kk (D6.1.app [[frR 0, frR 0, frR r7]]) 3 (by decide) (by decide)
  obtain ⟨d8, m8, p8⟩ := pick D6.1 D8 v80 v81
  obtain ⟨first, rfl, zf, f0'⟩ : ∃ r, d8 = frR r ∧ Sz 31 r ∧ 0 ≤ r := by
    simp only [List.mem_cons, List.not_mem_nil, or_false] at m8
    rcases m8 with rfl | rfl | rfl
    · exact ⟨_, rfl, z0, by decide⟩
    · exact ⟨_, rfl, z0, by decide⟩
    · exact ⟨_, rfl, z7, p7⟩
  have E8 : Dr s h h8 := ((E4.trans (D5.trans D6)).app _).trans D8
  obtain ⟨n9, h9, e9, n90, n91, D9⟩ := r_law_next' kk E8.1 15 (by decide) (by decide)
  have e10 := r_law_ratio kk n9 4 h9 (by decide) (s60 (by decide))
  have z10 : Sz 31 (Rat.divInt n9 4) := Sz.divInt (by omega) (by decide) (by decide)
  have p10 : 0 ≤ Rat.divInt n9 4 := Rat.divInt_nonneg n90 (by decide)
  generalize Rat.divInt n9 4 = r10 at e10 z10 p10
  obtain ⟨v11, h11, e11, v110, v111, D11⟩ := r_law_next' kk (D9.1.app [[frR 1, frR 1, frR 3, frR 0, frR r10, .str "endless"]]) 6 (by decide) (by decide)
  obtain ⟨d11, m11, p11⟩ := pick D9.1 D11 v110 v111
  obtain ⟨many, rfl, zm, m0'⟩ : ∃ a : EQ, d11 = eD a ∧ SzE 31 a ∧ Pos a := by
    simp only [List.mem_cons, List.not_mem_nil, or_false] at m11
    rcases m11 with rfl | rfl | rfl | rfl | rfl | rfl
    · exact ⟨.fin 1, rfl, z1, by show (0 : Rat) ≤ 1; decide⟩
    · exact ⟨.fin 1, rfl, z1, by show (0 : Rat) ≤ 1; decide⟩
    · exact ⟨.fin 3, rfl, Sz3.mono (by decide), by show (0 : Rat) ≤ 3; decide⟩
    · exact ⟨.fin 0, rfl, z0, by show (0 : Rat) ≤ 0; decide⟩
    · exact ⟨.fin r10, rfl, z10, p10⟩
    · exact ⟨.inf, rfl, trivial, trivial⟩
  have E11 : Dr s h h11 := ((E8.trans D9).app _).trans D11
  obtain ⟨r12, h12, e12, D12, z12, p12⟩ := r_law_part (show 3 ≤ k by omega) E11.1
  have E12 := E11.trans D12
  have n12 : h12.length ≠ s := by have := E12.1.lt; omega
  obtain ⟨d13, h13, e13, m13, D13⟩ := r_law_one (show 3 ≤ k by omega) (E12.1.app [[.non, frR 0, .str "endless", frR 10, frR 4, frR 10, frR r12, frR 1]]) (x := .ref h12.length) (get_app _ _) (fun h' D => D.keep (get_app _ _) n12) (by simp) (by simp)
  obtain ⟨len, rfl, zl⟩ : ∃ a : Option EQ, d13 = lD a ∧ ∀ e, a = some e → SzE 31 e ∧ Pos e := by
    simp only [List.mem_cons, List.not_mem_nil, or_false] at m13
    rcases m13 with rfl | rfl | rfl | rfl | rfl | rfl | rfl | rfl
    · exact ⟨none, rfl, fun e z => by cases z⟩
    · exact ⟨some (.fin 0), rfl, fun e z => by cases z; exact ⟨z0, by show (0 : Rat) ≤ 0; decide⟩⟩
    · exact ⟨some .inf, rfl, fun e z => by cases z; exact ⟨trivial, trivial⟩⟩
    · exact ⟨some (.fin 10), rfl, fun e z => by cases z; exact ⟨⟨by decide, by decide⟩, by show (0 : Rat) ≤ 10; decide⟩⟩
    · exact ⟨some (.fin 4), rfl, fun e z => by cases z; exact ⟨⟨by decide, by decide⟩, by show (0 : Rat) ≤ 4; decide⟩⟩
    · exact ⟨some (.fin 10), rfl, fun e z => by cases z; exact ⟨⟨by decide, by decide⟩, by show (0 : Rat) ≤ 10; decide⟩⟩
    · exact ⟨some (.fin r12), rfl, fun e z => by cases z; exact ⟨z12, p12⟩⟩
    · exact ⟨some (.fin 1), rfl, fun e z => by cases z; exact ⟨z1, by show (0 : Rat) ≤ 1; decide⟩⟩
  have E13 := (E12.app _).trans D13
  obtain ⟨d14, h14, e14, m14, D14⟩ := r_law_one (show 3 ≤ k by omega) E13.1 (x := .tup [.str "normal", .str "normal", .str "reverse", .str "alternate", .str "alternate reverse"]) rfl (fun _ _ => rfl) (by simp) (by simp)
  obtain ⟨way, rfl⟩ : ∃ f, d14 = .str (ww f) := by
    simp only [List.mem_cons, List.not_mem_nil, or_false] at m14
    rcases m14 with rfl | rfl | rfl | rfl | rfl
    · exact ⟨.no, rfl⟩
    · exact ⟨.no, rfl⟩
    · exact ⟨.re, rfl⟩
    · exact ⟨.al, rfl⟩
    · exact ⟨.ar, rfl⟩
  obtain ⟨c, h15, e15, D15, oc⟩ := r_law_curve (show 5 ≤ k by omega) (E13.trans D14).1
  refine ⟨⟨delay, behind, fill, first, many, len, way, c⟩, h15, ?_, (E13.trans D14).trans D15, ⟨zd, zbh, zf, f0', zm, m0', zl, oc⟩⟩
  simp only [b_law_timing, fn_G, con_G, pat_G, ev, evs, evAnd, evOr, evTests, asgT, asgTs, evIt, exe, exes, outD, startD, ob, om, g_b, b_add, b_sub, u_abs, u_int, u_intb, u_max, u_min, c_lt, c_le, c_gt, c_ge, c_eq, c_ne, eqD_int, eqD_bl, ix_0, ix_1, ix_2, fr_0, fr_1, isN_non, isN_fr, isN_e, isN_str, isN_int, isN_tup, lD_none, lD_some, oD_none, oD_some, isAbs, partR, tgS, tgSs, wipeD, List.map_cons, List.map_nil, List.length_cons, List.length_nil, List.cons_append, List.nil_append, List.append_nil, List.getElem?_cons_zero, List.getElem?_cons_succ, List.set_cons_zero, List.set_cons_succ, List.replicate_succ, List.replicate_zero, Nat.zero_add, Nat.add_sub_cancel, Nat.reduceAdd, Nat.reduceSub, Bool.not_true, Bool.not_false, Bool.false_eq_true, if_false, lim2, lim3, lim4, lim5, lim6, lim8, if_true, f0, f1, f3, f4, f10, e1, e2, p2, e3, e4, p4, e5, e6, e7, e8, p8, e9, e10, e11, p11, e12, e13, e14, e15]
  rfl

/-! ### lines, on data: the program's way -/
def olD (L : OL) : List D := L.map oD
theorem oD_none' (o : Option Rat) : isNone (oD o) = o.isNone := by cases o <;> rfl
theorem olD_set (L : OL) (i : Nat) (o : Option Rat) : (olD L).set i (oD o) = olD (L.set i o) := by unfold olD; rw [List.map_set]
theorem getOl {L : OL} {i : Nat} {o : Option Rat} (e : L[i]? = some o) : atI (olD L) (i : Int) = some (oD o) := atI_nat (by unfold olD; rw [List.getElem?_map, e]; rfl)
theorem set_ref {h : MH} {n : Nat} {L : OL} (e : h[n]? = some (olD L)) {i : Nat} (l : i < L.length) (r : Rat) : setD h (.ref n) (.int i) (frR r) = some (h.set n (olD (L.set i (some r)))) := by
  show (h[n]?).bind _ = _
  rw [e, ob]
  have ix : ixN (olD L).length (i : Int) = some i := by
    unfold ixN olD
    rw [List.length_map, if_pos (by omega), if_pos (by omega)]
    simp
  rw [ix, om, ← olD_set]
  rfl
theorem isN_oD (o : Option Rat) : isNone (oD o) = o.isNone := by cases o <;> rfl
theorem ixl {h : MH} {q : Nat} {L : OL} (e : h[q]? = some (olD L)) {i : Nat} {o : Option Rat} (eo : L[i]? = some o) : idxD h (.ref q) (.int i) = some (oD o) := by
  rw [ix_r e]; exact getOl eo
theorem lenl {h : MH} {q : Nat} {L : OL} (e : h[q]? = some (olD L)) : biD .len [.ref q] h = some (.int L.length, h) := by
  rw [u_len (xs := olD L) (show itemsD h (.ref q) = _ from e)]
  unfold olD
  rw [List.length_map]
theorem sp_rng {k n q p g : Nat} {o4 o5 : Option D} {hh : MH} (l : p + 1 + g ≤ 1000) : evIt (GmD k) (.rng2 (.bin .add (.var 2) (.int 1)) (.var 3)) [some (D.ref n), some (D.ref q), some (.int p), some (.int ((p + 1 + g : Nat) : Int)), o4, o5] hh =
      some (.rng ((p + 1 : Nat) : Int) g, hh) := by
  obtain ⟨b1, h1⟩ : ∃ b1 : Int, (p : Int) + 1 = b1 := ⟨_, rfl⟩
  obtain ⟨b2, h2⟩ : ∃ b2 : Int, ((p + 1 + g : Nat) : Int) = b2 := ⟨_, rfl⟩
  have rg : (okR b1 && okR b2) = true := by rw [okR_of (by omega) (by omega), okR_of (by omega) (by omega)]; rfl
  have e : (if (okR b1 && okR b2) = true then some (Src.rng b1 (b2 - b1).toNat, hh) else none) = some (.rng ((p + 1 : Nat) : Int) g, hh) := by
    rw [if_pos rg, show (b2 - b1).toNat = g by omega, show b1 = ((p + 1 : Nat) : Int) by omega]
  rw [h2]
  simp only [fn_G, con_G, pat_G, ev, evs, evAnd, evOr, evTests, asgT, asgTs, evIt, exe, exes, outD, startD, ob, om, g_b, b_add, b_sub, u_abs, u_int, u_intb, u_max, u_min, c_lt, c_le, c_gt, c_ge, c_eq, c_ne, eqD_int, eqD_bl, ix_0, ix_1, ix_2, fr_0, fr_1, isN_non, isN_fr, isN_e, isN_str, isN_int, isN_tup, lD_none, lD_some, oD_none, oD_some, isAbs, partR, tgS, tgSs, wipeD, List.map_cons, List.map_nil, List.length_cons, List.length_nil, List.cons_append, List.nil_append, List.append_nil, List.getElem?_cons_zero, List.getElem?_cons_succ, List.set_cons_zero, List.set_cons_succ, List.replicate_succ, List.replicate_zero, Nat.zero_add, Nat.add_sub_cancel, Nat.reduceAdd, Nat.reduceSub, Bool.not_true, Bool.not_false, Bool.false_eq_true, if_false, h1]
  exact e
theorem sp_for {k : Nat} (hk : 4 ≤ k) {n p g : Nat} {h : MH} {A B : OL} (ab : A.length = B.length) {b b' : Rat} {m : Nat} (zb : Sz m b) (zb' : Sz m b') (lm : m ≤ 1000) (lB : p + 1 + g < B.length) (l9 : B.length ≤ 1000)
    (Ap : A[p]? = some (some b)) (Ai : ∀ i, i < g → A[p + 1 + i]? = some (some (btw b b' (g + 1) (1 + i)))) (o5 : Option D) :
    ∃ o5', exe (GmD k) (.for (.nm 5) (.rng2 (.bin .add (.var 2) (.int 1)) (.var 3)) [(.asg (.sub (.var 1) (.var 5)) (.call i_plus [(.idx (.var 1) (.var 2)), (.call i_product [(.var 4), (.call i_ratio [(.bin .sub (.var 5) (.var 2)), (.bin .sub (.var 3) (.var 2))])])]))])
      [some (.ref n), some (.ref h.length), some (.int p), some (.int ((p + 1 + g : Nat) : Int)), some (frR (b' - b)), o5] (h ++ [olD (mix A B (p + 1))]) =
      some (.nx, [some (.ref n), some (.ref h.length), some (.int p), some (.int ((p + 1 + g : Nat) : Int)), some (frR (b' - b)), o5'], h ++ [olD (mix A B (p + 1 + g))]) := by
  rw [exe_for (sp_rng (by omega))]
  generalize hfor : forL _ _ _ _ _ _ = W
  have W1 := for_of hfor (fun i σ h' => h' = h ++ [olD (mix A B (p + 1 + i))] ∧ ∃ o5, σ = [some (D.ref n), some (D.ref h.length), some (.int p), some (.int ((p + 1 + g : Nat) : Int)), some (frR (b' - b)), o5]) g ⟨rfl, _, rfl⟩ (Nat.zero_le _) (by show g < g + 1 + 0; omega) (fun σ h' _ => by
    show some (if g < g then _ else none) = _
    rw [if_neg (Nat.lt_irrefl _)]) (by
    rintro i σ h' li ⟨rfl, o5, rfl⟩
    refine ⟨.int (((p + 1 : Nat) : Int) + i), _, h ++ [olD (mix A B (p + 1 + (i + 1)))], ?_, ?_, rfl, some (.int (((p + 1 : Nat) : Int) + i)), rfl⟩
    · show some (if i < g then _ else none) = _
      rw [if_pos li]
    have celli := get_app (h := h) (olD (mix A B (p + 1 + i))) []
    have x3 : idxD (h ++ [olD (mix A B (p + 1 + i))]) (.ref h.length) (.int (p : Int)) = some (frR b) := ixl celli (by rw [mix_lo ab (show p < p + 1 + i by omega)]; exact Ap)
    have d1 : ((p + 1 : Nat) : Int) + (i : Int) - (p : Int) = (1 + i : Nat) := by omega
    have d2 : ((p + 1 + g : Nat) : Int) - (p : Int) = (g + 1 : Nat) := by omega
    have rt := r_ratio (show 2 ≤ k by omega) ((1 + i : Nat) : Int) ((g + 1 : Nat) : Int) (h ++ [olD (mix A B (p + 1 + i))]) (by omega) (s60 (by omega))
    have zr : Sz 10 (Rat.divInt ((1 + i : Nat) : Int) ((g + 1 : Nat) : Int)) := Sz.divInt (by omega) (by omega) (by omega)
    have zs := zb'.sub zb
    have pr := r_product (show 3 ≤ k by omega) zs zr (by omega) (h ++ [olD (mix A B (p + 1 + i))])
    have pl := r_plus (show 3 ≤ k by omega) zb (zs.mul zr) (by omega) (h ++ [olD (mix A B (p + 1 + i))])
    have vb : b + (b' - b) * Rat.divInt ((1 + i : Nat) : Int) ((g + 1 : Nat) : Int) = btw b b' (g + 1) (1 + i) := by
      unfold btw
      rw [Rat.divInt_eq_div]
      rfl
    rw [vb] at pl
    have st : setD (h ++ [olD (mix A B (p + 1 + i))]) (.ref h.length) (.int (((p + 1 : Nat) : Int) + i)) (frR (btw b b' (g + 1) (1 + i))) = some (h ++ [olD (mix A B (p + 1 + (i + 1)))]) := by
      rw [show ((p + 1 : Nat) : Int) + (i : Int) = ((p + 1 + i : Nat) : Int) by omega, set_ref celli (by rw [mix_len ab, ab]; omega), mix_set ab (Ai i li)]
      rw [List.set_append_right _ _ (Nat.le_refl _), Nat.sub_self]
      rfl
    simp only [fn_G, con_G, pat_G, ev, evs, evAnd, evOr, evTests, asgT, asgTs, evIt, exe, exes, outD, startD, ob, om, g_b, b_add, b_sub, u_abs, u_int, u_intb, u_max, u_min, c_lt, c_le, c_gt, c_ge, c_eq, c_ne, eqD_int, eqD_bl, ix_0, ix_1, ix_2, fr_0, fr_1, isN_non, isN_fr, isN_e, isN_str, isN_int, isN_tup, lD_none, lD_some, oD_none, oD_some, isAbs, partR, tgS, tgSs, wipeD, List.map_cons, List.map_nil, List.length_cons, List.length_nil, List.cons_append, List.nil_append, List.append_nil, List.getElem?_cons_zero, List.getElem?_cons_succ, List.set_cons_zero, List.set_cons_succ, List.replicate_succ, List.replicate_zero, Nat.zero_add, Nat.add_sub_cancel, Nat.reduceAdd, Nat.reduceSub, Bool.not_true, Bool.not_false, Bool.false_eq_true, if_false, x3, d1, d2, rt, pr, pl, st])
  obtain ⟨σ3, h3, rfl, rfl, o5', rfl⟩ := W1
  exact ⟨o5', rfl⟩
def sp_c : Ex := .cmp .lt (.var 2) (.bi .len [(.var 1)])
def sp_b : List St := [(.asg (.nm 3) (.bin .add (.var 2) (.int 1))), (.whl (.andE [(.cmp .lt (.var 3) (.bi .len [(.var 1)])), (.isN (.idx (.var 1) (.var 3)))]) [(.aug 3 .add (.int 1))] (fun τ h => lenAt τ h 1)), (.ift (.cmp .lt (.var 3) (.bi .len [(.var 1)])) [(.asg (.nm 4) (.call i_minus [(.idx (.var 1) (.var 3)), (.idx (.var 1) (.var 2))])), (.for (.nm 5) (.rng2 (.bin .add (.var 2) (.int 1)) (.var 3)) [(.asg (.sub (.var 1) (.var 5)) (.call i_plus [(.idx (.var 1) (.var 2)), (.call i_product [(.var 4), (.call i_ratio [(.bin .sub (.var 5) (.var 2)), (.bin .sub (.var 3) (.var 2))])])]))])] []), (.asg (.nm 2) (.var 3))]
theorem b_spread_eq : b_spread = [(.asg (.nm 1) (.bi .list [(.var 0)])), (.asg (.nm 2) (.int 0)), (.whl sp_c sp_b (fun τ h => lenAt τ h 1)), (.ret (.var 1))] := rfl
theorem lenAt_cell {h : MH} {L : OL} {o0 o2 o3 o4 o5 : Option D} : lenAt [o0, some (.ref h.length), o2, o3, o4, o5] (h ++ [olD L]) 1 = L.length + 1 := by
  show (((h ++ [olD L])[h.length]?).getD []).length + 1 = _
  rw [get_app]
  show (olD L).length + 1 = _
  unfold olD
  rw [List.length_map]
/-- the inner loop: to the next one that is told -/
theorem sp_run {k n p : Nat} {h : MH} {C R : OL} (cp : ∀ i, C[p + 1 + i]? = R[i]?) (lc : C.length = p + 1 + R.length) (tl : R = [] ∨ ∃ b' R', R = List.replicate (run0 R) none ++ some b' :: R') (o4 o5 : Option D) :
    exe (GmD k) (.whl (.andE [(.cmp .lt (.var 3) (.bi .len [(.var 1)])), (.isN (.idx (.var 1) (.var 3)))]) [(.aug 3 .add (.int 1))] (fun τ h => lenAt τ h 1)) [some (.ref n), some (.ref h.length), some (.int p), some (.int ((p + 1 : Nat) : Int)), o4, o5] (h ++ [olD C]) =
      some (.nx, [some (.ref n), some (.ref h.length), some (.int p), some (.int ((p + 1 + run0 R : Nat) : Int)), o4, o5], h ++ [olD C]) := by
  rw [exe_whl]
  have cell := get_app (h := h) (olD C) []
  have ln := lenl cell
  have r9 := run0_le R
  generalize hg : whlL _ _ _ _ _ = Y
  have Y1 := whl_of (Fin := fun σ h' => h' = h ++ [olD C] ∧ σ = [some (D.ref n), some (D.ref h.length), some (.int p), some (.int ((p + 1 + run0 R : Nat) : Int)), o4, o5])
    (fun c σ h' => h' = h ++ [olD C] ∧ ∃ i, i ≤ run0 R ∧ c = run0 R - i ∧ σ = [some (D.ref n), some (D.ref h.length), some (.int p), some (.int ((p + 1 + i : Nat) : Int)), o4, o5]) ?inn _ (run0 R) _ _ Y hg (by rw [lenAt_cell]; omega) ⟨rfl, 0, Nat.zero_le _, by omega, rfl⟩
  case inn =>
    rintro c σ h' ⟨rfl, i, li, rfl, rfl⟩
    by_cases e : i = run0 R
    · subst e
      left
      refine ⟨h ++ [olD C], ?_, rfl, rfl⟩
      rcases tl with rfl | ⟨b', R', eR⟩
      · have c2 : decide (((p + 1 + run0 [] : Nat) : Int) < (C.length : Int)) = false := decide_eq_false (by rw [lc]; simp [run0])
        simp only [fn_G, con_G, pat_G, ev, evs, evAnd, evOr, evTests, asgT, asgTs, evIt, exe, exes, outD, startD, ob, om, g_b, b_add, b_sub, u_abs, u_int, u_intb, u_max, u_min, c_lt, c_le, c_gt, c_ge, c_eq, c_ne, eqD_int, eqD_bl, ix_0, ix_1, ix_2, fr_0, fr_1, isN_non, isN_fr, isN_e, isN_str, isN_int, isN_tup, lD_none, lD_some, oD_none, oD_some, isAbs, partR, tgS, tgSs, wipeD, List.map_cons, List.map_nil, List.length_cons, List.length_nil, List.cons_append, List.nil_append, List.append_nil, List.getElem?_cons_zero, List.getElem?_cons_succ, List.set_cons_zero, List.set_cons_succ, List.replicate_succ, List.replicate_zero, Nat.zero_add, Nat.add_sub_cancel, Nat.reduceAdd, Nat.reduceSub, Bool.not_true, Bool.not_false, Bool.false_eq_true, if_false, ln, c2]
      · have at2 : C[p + 1 + run0 R]? = some (some b') := by
          rw [cp]
          generalize run0 R = g at eR
          rw [eR]
          exact rep_at g b' R'
        have c2 : decide (((p + 1 + run0 R : Nat) : Int) < (C.length : Int)) = true := decide_eq_true (by
          have := (List.getElem?_eq_some_iff.mp at2).1
          omega)
        simp only [fn_G, con_G, pat_G, ev, evs, evAnd, evOr, evTests, asgT, asgTs, evIt, exe, exes, outD, startD, ob, om, g_b, b_add, b_sub, u_abs, u_int, u_intb, u_max, u_min, c_lt, c_le, c_gt, c_ge, c_eq, c_ne, eqD_int, eqD_bl, ix_0, ix_1, ix_2, fr_0, fr_1, isN_non, isN_fr, isN_e, isN_str, isN_int, isN_tup, lD_none, lD_some, oD_none, oD_some, isAbs, partR, tgS, tgSs, wipeD, List.map_cons, List.map_nil, List.length_cons, List.length_nil, List.cons_append, List.nil_append, List.append_nil, List.getElem?_cons_zero, List.getElem?_cons_succ, List.set_cons_zero, List.set_cons_succ, List.replicate_succ, List.replicate_zero, Nat.zero_add, Nat.add_sub_cancel, Nat.reduceAdd, Nat.reduceSub, Bool.not_true, Bool.not_false, Bool.false_eq_true, if_false, ln, c2, ixl cell at2]
    · right
      have lt : i < run0 R := by omega
      refine ⟨h ++ [olD C], ?_⟩
      have at2 : C[p + 1 + i]? = some none := by rw [cp]; exact run0_get lt
      have c2 : decide (((p + 1 + i : Nat) : Int) < (C.length : Int)) = true := decide_eq_true (by
        have := (List.getElem?_eq_some_iff.mp at2).1
        omega)
      simp only [fn_G, con_G, pat_G, ev, evs, evAnd, evOr, evTests, asgT, asgTs, evIt, exe, exes, outD, startD, ob, om, g_b, b_add, b_sub, u_abs, u_int, u_intb, u_max, u_min, c_lt, c_le, c_gt, c_ge, c_eq, c_ne, eqD_int, eqD_bl, ix_0, ix_1, ix_2, fr_0, fr_1, isN_non, isN_fr, isN_e, isN_str, isN_int, isN_tup, lD_none, lD_some, oD_none, oD_some, isAbs, partR, tgS, tgSs, wipeD, List.map_cons, List.map_nil, List.length_cons, List.length_nil, List.cons_append, List.nil_append, List.append_nil, List.getElem?_cons_zero, List.getElem?_cons_succ, List.set_cons_zero, List.set_cons_succ, List.replicate_succ, List.replicate_zero, Nat.zero_add, Nat.add_sub_cancel, Nat.reduceAdd, Nat.reduceSub, Bool.not_true, Bool.not_false, Bool.false_eq_true, if_false, ln, c2, ixl cell at2]
      exact ⟨_, _, run0 R - (i + 1), trivial, rfl, by omega, rfl, i + 1, by omega, rfl, by rw [show ((p + 1 + i : Nat) : Int) + 1 = ((p + 1 + (i + 1) : Nat) : Int) by omega]⟩
  obtain ⟨σ2, h2, rfl, rfl, rfl⟩ := Y1
  rfl
/-- one turn of the outer loop -/
theorem sp_turn {k : Nat} (hk : 4 ≤ k) {n p : Nat} {h : MH} {A B R : OL} (ab : A.length = B.length) {b : Rat} {m : Nat} (zb : Sz m b) (zR : ∀ r, some r ∈ R → Sz m r) (lm : m ≤ 1000) (lB : B.length = p + 1 + R.length) (l9 : B.length ≤ 1000)
    (Ap : A[p]? = some (some b)) (BR : ∀ i, B[p + 1 + i]? = R[i]?) (tl : R = [] ∨ ∃ b' R', R = List.replicate (run0 R) none ++ some b' :: R')
    (Ai : ∀ b' R', R = List.replicate (run0 R) none ++ some b' :: R' → (∀ i, i < run0 R → A[p + 1 + i]? = some (some (btw b b' (run0 R + 1) (1 + i)))) ∧ A[p + 1 + run0 R]? = some (some b')) (o3 o4 o5 : Option D) :
    ∃ o3' o4' o5' : Option D, exes (GmD k) sp_b [some (.ref n), some (.ref h.length), some (.int p), o3, o4, o5] (h ++ [olD (mix A B (p + 1))]) =
      some (Fl.nx, [some (.ref n), some (.ref h.length), some (.int ((p + 1 + run0 R : Nat) : Int)), o3', o4', o5'], h ++ [olD (mix A B (p + 1 + run0 R + 1))]) := by
  have s1 : exe (GmD k) (.asg (.nm 3) (.bin .add (.var 2) (.int 1))) [some (.ref n), some (.ref h.length), some (.int p), o3, o4, o5] (h ++ [olD (mix A B (p + 1))]) = some (.nx, [some (.ref n), some (.ref h.length), some (.int p), some (.int ((p + 1 : Nat) : Int)), o4, o5], h ++ [olD (mix A B (p + 1))]) := rfl
  have cp : ∀ i, (mix A B (p + 1))[p + 1 + i]? = R[i]? := fun i => by rw [mix_hi ab (by omega), BR]
  have s2 := sp_run (k := k) (n := n) (h := h) cp (by rw [mix_len ab, ab, lB]) tl o4 o5
  have cell := get_app (h := h) (olD (mix A B (p + 1))) []
  have ln := lenl cell
  rw [mix_len ab, ab] at ln
  unfold sp_b
  rw [exes_nx s1, exes_nx s2]
  rcases tl with rfl | ⟨b', R', eR⟩
  · have c2 : getB (ev (GmD k) (.cmp .lt (.var 3) (.bi .len [(.var 1)])) [some (.ref n), some (.ref h.length), some (.int p), some (.int ((p + 1 + run0 [] : Nat) : Int)), o4, o5] (h ++ [olD (mix A B (p + 1))])) = some (false, h ++ [olD (mix A B (p + 1))]) := by
      have c2 : decide (((p + 1 + run0 [] : Nat) : Int) < (B.length : Int)) = false := decide_eq_false (by rw [lB]; simp [run0])
      simp only [fn_G, con_G, pat_G, ev, evs, evAnd, evOr, evTests, asgT, asgTs, evIt, exe, exes, outD, startD, ob, om, g_b, b_add, b_sub, u_abs, u_int, u_intb, u_max, u_min, c_lt, c_le, c_gt, c_ge, c_eq, c_ne, eqD_int, eqD_bl, ix_0, ix_1, ix_2, fr_0, fr_1, isN_non, isN_fr, isN_e, isN_str, isN_int, isN_tup, lD_none, lD_some, oD_none, oD_some, isAbs, partR, tgS, tgSs, wipeD, List.map_cons, List.map_nil, List.length_cons, List.length_nil, List.cons_append, List.nil_append, List.append_nil, List.getElem?_cons_zero, List.getElem?_cons_succ, List.set_cons_zero, List.set_cons_succ, List.replicate_succ, List.replicate_zero, Nat.zero_add, Nat.add_sub_cancel, Nat.reduceAdd, Nat.reduceSub, Bool.not_true, Bool.not_false, Bool.false_eq_true, if_false, ln, c2]
    rw [exes_nx ((exe_ift_f c2).trans exes_nil)]
    refine ⟨some (.int ((p + 1 + run0 [] : Nat) : Int)), o4, o5, (exes_nx (exe_asg rfl)).trans ?_⟩
    rw [mix_all ab (p := p + 1) (by rw [ab, lB]; simp), mix_all ab (by rw [ab, lB]; simp [run0])]
    rfl
  · obtain ⟨Ai, Ag⟩ := Ai b' R' eR
    have Rg : R[run0 R]? = some (some b') := by
      generalize run0 R = g at eR
      rw [eR]
      exact rep_at g b' R'
    have lR := (List.getElem?_eq_some_iff.mp Rg).1
    have zb' : Sz m b' := zR b' (List.mem_of_getElem? Rg)
    have at2 : (mix A B (p + 1))[p + 1 + run0 R]? = some (some b') := by rw [cp]; exact Rg
    have at1 : (mix A B (p + 1))[p]? = some (some b) := by rw [mix_lo ab (Nat.lt_succ_self _), Ap]
    have x2 := ixl cell at2
    have x1 := ixl cell at1
    have mn := r_minus (show 3 ≤ k by omega) zb' zb (by omega) (h ++ [olD (mix A B (p + 1))])
    have c2 : getB (ev (GmD k) (.cmp .lt (.var 3) (.bi .len [(.var 1)])) [some (.ref n), some (.ref h.length), some (.int p), some (.int ((p + 1 + run0 R : Nat) : Int)), o4, o5] (h ++ [olD (mix A B (p + 1))])) = some (true, h ++ [olD (mix A B (p + 1))]) := by
      have c2 : decide (((p + 1 + run0 R : Nat) : Int) < (B.length : Int)) = true := decide_eq_true (by omega)
      simp only [fn_G, con_G, pat_G, ev, evs, evAnd, evOr, evTests, asgT, asgTs, evIt, exe, exes, outD, startD, ob, om, g_b, b_add, b_sub, u_abs, u_int, u_intb, u_max, u_min, c_lt, c_le, c_gt, c_ge, c_eq, c_ne, eqD_int, eqD_bl, ix_0, ix_1, ix_2, fr_0, fr_1, isN_non, isN_fr, isN_e, isN_str, isN_int, isN_tup, lD_none, lD_some, oD_none, oD_some, isAbs, partR, tgS, tgSs, wipeD, List.map_cons, List.map_nil, List.length_cons, List.length_nil, List.cons_append, List.nil_append, List.append_nil, List.getElem?_cons_zero, List.getElem?_cons_succ, List.set_cons_zero, List.set_cons_succ, List.replicate_succ, List.replicate_zero, Nat.zero_add, Nat.add_sub_cancel, Nat.reduceAdd, Nat.reduceSub, Bool.not_true, Bool.not_false, Bool.false_eq_true, if_false, ln, c2]
    have gp : ev (GmD k) (.call i_minus [(.idx (.var 1) (.var 3)), (.idx (.var 1) (.var 2))]) [some (.ref n), some (.ref h.length), some (.int p), some (.int ((p + 1 + run0 R : Nat) : Int)), o4, o5] (h ++ [olD (mix A B (p + 1))]) = some (frR (b' - b), h ++ [olD (mix A B (p + 1))]) := by
      simp only [fn_G, con_G, pat_G, ev, evs, evAnd, evOr, evTests, asgT, asgTs, evIt, exe, exes, outD, startD, ob, om, g_b, b_add, b_sub, u_abs, u_int, u_intb, u_max, u_min, c_lt, c_le, c_gt, c_ge, c_eq, c_ne, eqD_int, eqD_bl, ix_0, ix_1, ix_2, fr_0, fr_1, isN_non, isN_fr, isN_e, isN_str, isN_int, isN_tup, lD_none, lD_some, oD_none, oD_some, isAbs, partR, tgS, tgSs, wipeD, List.map_cons, List.map_nil, List.length_cons, List.length_nil, List.cons_append, List.nil_append, List.append_nil, List.getElem?_cons_zero, List.getElem?_cons_succ, List.set_cons_zero, List.set_cons_succ, List.replicate_succ, List.replicate_zero, Nat.zero_add, Nat.add_sub_cancel, Nat.reduceAdd, Nat.reduceSub, Bool.not_true, Bool.not_false, Bool.false_eq_true, if_false, x2, x1, mn]
    obtain ⟨o5', ef⟩ := sp_for (k := k) (by omega) (n := n) (p := p) (g := run0 R) (h := h) ab zb zb' lm (by omega) l9 Ap Ai o5
    have s3 : exe (GmD k) (.asg (.nm 4) (.call i_minus [(.idx (.var 1) (.var 3)), (.idx (.var 1) (.var 2))])) [some (.ref n), some (.ref h.length), some (.int p), some (.int ((p + 1 + run0 R : Nat) : Int)), o4, o5] (h ++ [olD (mix A B (p + 1))]) = some (.nx, [some (.ref n), some (.ref h.length), some (.int p), some (.int ((p + 1 + run0 R : Nat) : Int)), some (frR (b' - b)), o5], h ++ [olD (mix A B (p + 1))]) := by
      rw [exe_asg gp]
      simp only [List.set_cons_zero, List.set_cons_succ]
    have s4 : exes (GmD k) [(.asg (.nm 4) (.call i_minus [(.idx (.var 1) (.var 3)), (.idx (.var 1) (.var 2))])), (.for (.nm 5) (.rng2 (.bin .add (.var 2) (.int 1)) (.var 3)) [(.asg (.sub (.var 1) (.var 5)) (.call i_plus [(.idx (.var 1) (.var 2)), (.call i_product [(.var 4), (.call i_ratio [(.bin .sub (.var 5) (.var 2)), (.bin .sub (.var 3) (.var 2))])])]))])] [some (.ref n), some (.ref h.length), some (.int p), some (.int ((p + 1 + run0 R : Nat) : Int)), o4, o5] (h ++ [olD (mix A B (p + 1))]) = some (.nx, [some (.ref n), some (.ref h.length), some (.int p), some (.int ((p + 1 + run0 R : Nat) : Int)), some (frR (b' - b)), o5'], h ++ [olD (mix A B (p + 1 + run0 R))]) := by
      rw [exes_nx s3, exes_nx ef]
      rfl
    rw [exes_nx ((exe_ift_t c2).trans s4)]
    refine ⟨some (.int ((p + 1 + run0 R : Nat) : Int)), some (frR (b' - b)), o5', (exes_nx (exe_asg rfl)).trans ?_⟩
    rw [mix_same ab (p := p + 1 + run0 R) (by rw [Ag, BR]; exact Rg.symm)]
    rfl
theorem r_spread {K : Nat} (hK : 5 ≤ K) {m : Nat} (lm : m ≤ 1000) {n : Nat} {h : MH} {a : Rat} {L : OL} (e0 : h[n]? = some (olD (some a :: L))) (told : Told (some a :: L)) (len : L.length ≤ 999) (za : Sz m a) (zl : ∀ r, some r ∈ L → Sz m r) :
    runD K i_spread [.ref n] h = some (.ref h.length, h ++ [(a :: spr a L).map frR]) := by
  obtain ⟨k, rfl⟩ : ∃ k, K = k + 1 := ⟨K - 1, by omega⟩
  rw [run_spread _ _ _ rfl, b_spread_eq]
  have cp : biD .list [.ref n] h = some (.ref h.length, h ++ [olD (some a :: L)]) := by
    show (itemsD h (.ref n)).map _ = _
    rw [show itemsD h (.ref n) = h[n]? from rfl, e0]; rfl
  obtain ⟨B, hB⟩ : ∃ B : OL, B = some a :: L := ⟨_, rfl⟩
  obtain ⟨A, hA⟩ : ∃ A : OL, A = (a :: spr a L).map some := ⟨_, rfl⟩
  have lenB : B.length = L.length + 1 := by rw [hB]; rfl
  have ab : A.length = B.length := by rw [hA, hB]; simp [spr_len]
  have zB : ∀ r, some r ∈ B → Sz m r := by
    intro r hr
    rw [hB] at hr
    rcases List.mem_cons.mp hr with z | z
    · cases z; exact za
    · exact zl _ z
  have s1 : exe (GmD k) (.asg (.nm 1) (.bi .list [(.var 0)])) (startD 6 [.ref n]) h = some (.nx, [some (.ref n), some (.ref h.length), none, none, none, none], h ++ [olD B]) := by
    rw [hB]
    simp only [fn_G, con_G, pat_G, ev, evs, evAnd, evOr, evTests, asgT, asgTs, evIt, exe, exes, outD, startD, ob, om, g_b, b_add, b_sub, u_abs, u_int, u_intb, u_max, u_min, c_lt, c_le, c_gt, c_ge, c_eq, c_ne, eqD_int, eqD_bl, ix_0, ix_1, ix_2, fr_0, fr_1, isN_non, isN_fr, isN_e, isN_str, isN_int, isN_tup, lD_none, lD_some, oD_none, oD_some, isAbs, partR, tgS, tgSs, wipeD, List.map_cons, List.map_nil, List.length_cons, List.length_nil, List.cons_append, List.nil_append, List.append_nil, List.getElem?_cons_zero, List.getElem?_cons_succ, List.set_cons_zero, List.set_cons_succ, List.replicate_succ, List.replicate_zero, Nat.zero_add, Nat.add_sub_cancel, Nat.reduceAdd, Nat.reduceSub, Bool.not_true, Bool.not_false, Bool.false_eq_true, if_false, cp]
  have s2 : exe (GmD k) (.asg (.nm 2) (.int 0)) [some (.ref n), some (.ref h.length), none, none, none, none] (h ++ [olD B]) = some (.nx, [some (.ref n), some (.ref h.length), some (.int ((0 : Nat) : Int)), none, none, none], h ++ [olD B]) := rfl
  have s3 : ∃ o2 o3 o4 o5, exe (GmD k) (.whl sp_c sp_b (fun τ h => lenAt τ h 1)) [some (.ref n), some (.ref h.length), some (.int ((0 : Nat) : Int)), none, none, none] (h ++ [olD B]) = some (.nx, [some (.ref n), some (.ref h.length), o2, o3, o4, o5], h ++ [olD A]) := by
    rw [exe_whl]
    generalize hf : whlL _ _ _ _ _ = X
    have X1 := whl_of (Fin := fun σ h' => h' = h ++ [olD A] ∧ ∃ o2 o3 o4 o5 : Option D, σ = [some (.ref n), some (.ref h.length), o2, o3, o4, o5])
      (fun c σ h' => ∃ (p : Nat) (o3 o4 o5 : Option D), σ = [some (.ref n), some (.ref h.length), some (.int p), o3, o4, o5] ∧ h' = h ++ [olD (mix A B (p + 1))] ∧
        ((∃ (P : OL) (Q : List Rat) (b : Rat) (R : OL), B = P ++ some b :: R ∧ a :: spr a L = Q ++ b :: spr b R ∧ P.length = p ∧ Q.length = p ∧ c = R.length + 1) ∨ (p = B.length ∧ c = 0))) ?step _ (L.length + 1) _ _ X hf (by rw [lenAt_cell, lenB]; omega) ?init
    case init =>
      refine ⟨0, none, none, none, rfl, ?_, .inl ⟨[], [], a, L, hB, rfl, rfl, rfl, rfl⟩⟩
      have : mix A B 1 = B := by
        have := mix_same (A := A) (B := B) ab (p := 0) (by rw [hA, hB]; rfl)
        rw [← this]; rfl
      rw [this]
    case step =>
      rintro c σ h' ⟨p, o3, o4, o5, rfl, rfl, cs⟩
      have cell := get_app (h := h) (olD (mix A B (p + 1))) []
      have ln := lenl cell
      rw [mix_len ab, ab] at ln
      rcases cs with ⟨P, Q, b, R, eB, eA, lP, lQ, rfl⟩ | ⟨rfl, rfl⟩
      · have lB : B.length = p + 1 + R.length := by rw [eB, List.length_append, List.length_cons, lP]; omega
        have Ap : A[p]? = some (some b) := by
          rw [hA, eA, List.getElem?_map, List.getElem?_append_right (by omega), lQ, Nat.sub_self]; rfl
        have BR : ∀ i, B[p + 1 + i]? = R[i]? := fun i => by
          rw [eB, List.getElem?_append_right (by omega), lP, show p + 1 + i - p = i + 1 by omega]; rfl
        have c1 : decide ((p : Int) < (B.length : Int)) = true := decide_eq_true (by omega)
        have tl := Told.tail (show Told (P ++ some b :: R) by rw [← eB, hB]; exact told)
        obtain ⟨o3', o4', o5', et⟩ := sp_turn (k := k) (by omega) (n := n) (h := h) ab (zB b (by rw [eB]; simp)) (fun r hr => zB r (by rw [eB]; simp [hr])) lm lB (by omega) Ap BR tl (fun b' R' eR => by
          constructor
          · intro i li
            rw [hA, eA, List.getElem?_map, List.getElem?_append_right (by omega), lQ, show p + 1 + i - p = i + 1 by omega, List.getElem?_cons_succ]
            generalize run0 R = g at eR li ⊢
            rw [eR, spr_at, List.getElem?_append_left (by simpa using li), List.getElem?_map, List.getElem?_range li]
            rfl
          · rw [hA, eA, List.getElem?_map, List.getElem?_append_right (by omega), lQ, show p + 1 + run0 R - p = run0 R + 1 by omega, List.getElem?_cons_succ]
            generalize run0 R = g at eR ⊢
            rw [eR, spr_at, List.getElem?_append_right (by simp), List.length_map, List.length_range, Nat.sub_self]
            rfl) o3 o4 o5
        have hc : getB (ev (GmD k) sp_c [some (.ref n), some (.ref h.length), some (.int p), o3, o4, o5] (h ++ [olD (mix A B (p + 1))])) = some (true, h ++ [olD (mix A B (p + 1))]) := by
          simp only [sp_c, fn_G, con_G, pat_G, ev, evs, evAnd, evOr, evTests, asgT, asgTs, evIt, exe, exes, outD, startD, ob, om, g_b, b_add, b_sub, u_abs, u_int, u_intb, u_max, u_min, c_lt, c_le, c_gt, c_ge, c_eq, c_ne, eqD_int, eqD_bl, ix_0, ix_1, ix_2, fr_0, fr_1, isN_non, isN_fr, isN_e, isN_str, isN_int, isN_tup, lD_none, lD_some, oD_none, oD_some, isAbs, partR, tgS, tgSs, wipeD, List.map_cons, List.map_nil, List.length_cons, List.length_nil, List.cons_append, List.nil_append, List.append_nil, List.getElem?_cons_zero, List.getElem?_cons_succ, List.set_cons_zero, List.set_cons_succ, List.replicate_succ, List.replicate_zero, Nat.zero_add, Nat.add_sub_cancel, Nat.reduceAdd, Nat.reduceSub, Bool.not_true, Bool.not_false, Bool.false_eq_true, if_false, ln, c1]
        rcases tl with rfl | ⟨b', R', eR⟩
        · exact .inr ⟨_, _, _, 0, hc, et, by omega, _, _, _, _, rfl, rfl, .inr ⟨by rw [lB]; rfl, rfl⟩⟩
        · have lR : R.length = run0 R + 1 + R'.length := by
            have := congrArg List.length eR
            rw [List.length_append, List.length_replicate, List.length_cons] at this
            omega
          refine .inr ⟨_, _, _, R'.length + 1, hc, et, by omega, p + 1 + run0 R, _, _, _, rfl, rfl, .inl ⟨P ++ some b :: List.replicate (run0 R) none, Q ++ b :: (List.range (run0 R)).map (fun i => btw b b' (run0 R + 1) (1 + i)), b', R', ?_, ?_, ?_, ?_, rfl⟩⟩
          · rw [eB, List.append_assoc, List.cons_append]
            generalize run0 R = g at eR
            rw [← eR]
          · rw [eA, List.append_assoc, List.cons_append]
            generalize run0 R = g at eR
            rw [eR, spr_at]
          · rw [List.length_append, List.length_cons, List.length_replicate, lP]; omega
          · rw [List.length_append, List.length_cons, List.length_map, List.length_range, lQ]; omega
      · refine .inl ⟨h ++ [olD (mix A B (B.length + 1))], ?_, ?_, _, _, _, _, rfl⟩
        · have c1 : decide ((B.length : Int) < (B.length : Int)) = false := decide_eq_false (by omega)
          simp only [sp_c, fn_G, con_G, pat_G, ev, evs, evAnd, evOr, evTests, asgT, asgTs, evIt, exe, exes, outD, startD, ob, om, g_b, b_add, b_sub, u_abs, u_int, u_intb, u_max, u_min, c_lt, c_le, c_gt, c_ge, c_eq, c_ne, eqD_int, eqD_bl, ix_0, ix_1, ix_2, fr_0, fr_1, isN_non, isN_fr, isN_e, isN_str, isN_int, isN_tup, lD_none, lD_some, oD_none, oD_some, isAbs, partR, tgS, tgSs, wipeD, List.map_cons, List.map_nil, List.length_cons, List.length_nil, List.cons_append, List.nil_append, List.append_nil, List.getElem?_cons_zero, List.getElem?_cons_succ, List.set_cons_zero, List.set_cons_succ, List.replicate_succ, List.replicate_zero, Nat.zero_add, Nat.add_sub_cancel, Nat.reduceAdd, Nat.reduceSub, Bool.not_true, Bool.not_false, Bool.false_eq_true, if_false, ln, c1]
        · rw [mix_all ab (by omega)]
    obtain ⟨σ', h', rfl, rfl, o2, o3, o4, o5, rfl⟩ := X1
    exact ⟨o2, o3, o4, o5, rfl⟩
  obtain ⟨o2, o3, o4, o5, s3⟩ := s3
  have s4 : exe (GmD k) (.ret (.var 1)) [some (.ref n), some (.ref h.length), o2, o3, o4, o5] (h ++ [olD A]) = some (.rt (.ref h.length), [some (.ref n), some (.ref h.length), o2, o3, o4, o5], h ++ [olD A]) := rfl
  rw [outD_rt ((exes_nx s1).trans ((exes_nx s2).trans ((exes_nx s3).trans (exes_rt s4))))]
  congr 3
  rw [hA]
  unfold olD
  rw [List.map_map]
  rfl

/-! ### lines: all inputs told, and values -/
theorem ixN_m1 {n : Nat} (h : 0 < n) : ixN n (-1) = some (n - 1) := by
  unfold ixN
  rw [if_neg (by decide), if_pos (by omega)]
  congr 1
  omega
theorem ixl_m1 {h : MH} {q : Nat} {L : OL} (e : h[q]? = some (olD L)) {o : Option Rat} (eo : L.getLast? = some o) : idxD h (.ref q) (.int (-1)) = some (oD o) := by
  rw [ix_r e]
  have l : 0 < L.length := by cases L with | nil => cases eo | cons _ _ => simp
  unfold atI
  unfold olD
  rw [List.length_map, ixN_m1 l]
  show (L.map oD)[L.length - 1]? = _
  rw [List.getElem?_map, ← List.getLast?_eq_getElem?, eo]; rfl
theorem ixl_0 {h : MH} {q : Nat} {L : OL} (e : h[q]? = some (olD L)) {o : Option Rat} (eo : L[0]? = some o) : idxD h (.ref q) (.int 0) = some (oD o) := ixl (i := 0) e eo
theorem set_m1 {h : MH} {q : Nat} {L : OL} (e : h[q]? = some (olD L)) (l : 0 < L.length) (r : Rat) : setD h (.ref q) (.int (-1)) (frR r) = some (h.set q (olD (L.set (L.length - 1) (some r)))) := by
  show (h[q]?).bind _ = _
  rw [e, ob]
  have ix : ixN (olD L).length (-1) = some (L.length - 1) := by unfold olD; rw [List.length_map, ixN_m1 l]
  rw [ix, om, ← olD_set]
  rfl
theorem endsN_set : ∀ L : OL, L.getLast? = some none → endsN L = L.set (L.length - 1) (some 1)
  | [], h => by cases h
  | [none], _ => rfl
  | [some x], h => by simp at h
  | x :: y :: r, h => by
    rw [List.getLast?_cons_cons] at h
    have := endsN_set (y :: r) h
    rw [endsN_cons, this]
    rfl
theorem endsN_same : ∀ (L : OL) (z : Rat), L.getLast? = some (some z) → endsN L = L
  | [], _, h => by cases h
  | [none], _, h => by simp at h
  | [some x], _, _ => rfl
  | x :: y :: r, z, h => by
    rw [List.getLast?_cons_cons] at h
    rw [endsN_cons, endsN_same (y :: r) z h]
theorem cell_set {h : MH} {x y : List D} : (h ++ [x]).set h.length y = h ++ [y] := by
  rw [List.set_append_right _ _ (Nat.le_refl _), Nat.sub_self]; rfl
theorem cell_set2 {h : MH} {x y z : List D} : (h ++ [x, z]).set h.length y = h ++ [y, z] := by
  rw [List.set_append_right _ _ (Nat.le_refl _), Nat.sub_self]; rfl
theorem cell2 {h : MH} {x y : List D} : (h ++ [x, y])[h.length + 1]? = some y := by
  rw [List.getElem?_append_right (by omega), show h.length + 1 - h.length = 1 by omega]; rfl
theorem emax_f (a b : Rat) : emax (.fin a) (.fin b) = .fin (if a < b then b else a) := by
  unfold emax elt
  by_cases h : a < b <;> simp [h]
def pvD (p : Rat × Rat) : D := ptD (p.1, some p.2)
theorem pt_i0 (h : MH) (p : Rat × Option Rat) : idxD h (ptD p) (.int 0) = some (frR p.1) := ix_0 ..
theorem pt_i1 (h : MH) (p : Rat × Option Rat) : idxD h (ptD p) (.int 1) = some (oD p.2) := ix_1 ..
/-- the greatest so far, one after the other -/
theorem sp_most {k g : Nat} {m : Nat} (hg : ∀ (a b : Rat) (h : MH), Sz m a → Sz m b → runD k g [frR a, frR b] h = some (frR (if a < b then b else a), h)) {x0 : D} {h : MH} {E : OL} {a : Rat} (tl : En) (za : Sz m a) (zE : ∀ r, some r ∈ E → Sz m r) (lE : E.length < 1000) :
    ∃ o2 o3 o4 : Option D, exe (GmD k) (.for (.tp [(.nm 3), (.nm 4)]) (.enum (.bi .list [(.var 1)])) [(.ift (.notN (.var 4)) [(.asg (.nm 2) (.call g [(.var 2), (.var 4)])), (.asg (.sub (.var 1) (.var 3)) (.var 2))] [])]) (some x0 :: some (.ref h.length) :: some (frR a) :: none :: none :: tl) (h ++ [olD E]) =
      some (.nx, (some x0 :: some (.ref h.length) :: o2 :: o3 :: o4 :: tl), h ++ [olD (rmx a E), olD E]) := by
  have cell := get_app (h := h) (olD E) []
  have cp : biD .list [.ref h.length] (h ++ [olD E]) = some (.ref (h.length + 1), h ++ [olD E, olD E]) := by
    show (itemsD (h ++ [olD E]) (.ref h.length)).map _ = _
    rw [show itemsD (h ++ [olD E]) (.ref h.length) = (h ++ [olD E])[h.length]? from rfl, cell, om, List.length_append, List.append_assoc]; rfl
  have it2 : ∀ y, itemsD (h ++ [y, olD E]) (.ref (h.length + 1)) = some (olD E) := fun y => cell2
  have ei : evIt (GmD k) (.enum (.bi .list [(.var 1)])) (some x0 :: some (.ref h.length) :: some (frR a) :: none :: none :: tl) (h ++ [olD E]) = some (.enum (.ref (h.length + 1)), h ++ [olD E, olD E]) := by
    simp only [fn_G, con_G, pat_G, ev, evs, evAnd, evOr, evTests, asgT, asgTs, evIt, exe, exes, outD, startD, ob, om, g_b, b_add, b_sub, u_abs, u_int, u_intb, u_max, u_min, c_lt, c_le, c_gt, c_ge, c_eq, c_ne, eqD_int, eqD_bl, ix_0, ix_1, ix_2, fr_0, fr_1, isN_non, isN_fr, isN_e, isN_str, isN_int, isN_tup, lD_none, lD_some, oD_none, oD_some, isAbs, partR, tgS, tgSs, wipeD, List.map_cons, List.map_nil, List.length_cons, List.length_nil, List.cons_append, List.nil_append, List.append_nil, List.getElem?_cons_zero, List.getElem?_cons_succ, List.set_cons_zero, List.set_cons_succ, List.replicate_succ, List.replicate_zero, Nat.zero_add, Nat.add_sub_cancel, Nat.reduceAdd, Nat.reduceSub, Bool.not_true, Bool.not_false, Bool.false_eq_true, if_false, cp, it2, Option.isSome_some, isL, and_self, if_true]
  rw [exe_for ei]
  have sl : srcLen (h ++ [olD E, olD E]) (.enum (.ref (h.length + 1))) = E.length := by
    show ((itemsD _ _).getD []).length = _
    rw [it2]
    show (olD E).length = _
    unfold olD; rw [List.length_map]
  rw [sl]
  have lenT : (rmx a E).length = E.length := rmx_len a E
  generalize hfor : forL _ _ _ _ _ _ = W
  have W1 := for_of hfor (fun i σ h' => h' = h ++ [olD (mix (rmx a E) E i), olD E] ∧ ∃ (P P' R : OL) (b : Rat) (o3 o4 : Option D), E = P ++ R ∧ rmx a E = P' ++ rmx b R ∧ P.length = i ∧ P'.length = i ∧ Sz m b ∧ σ = (some x0 :: some (.ref h.length) :: some (frR b) :: o3 :: o4 :: tl)) E.length
    ⟨rfl, [], [], E, a, none, none, rfl, rfl, rfl, rfl, za, rfl⟩ (Nat.zero_le _) (by omega) (fun σ h' p => by
      obtain ⟨rfl, _⟩ := p
      show (itemsD _ _).map _ = _
      rw [it2, om, List.getElem?_eq_none (by unfold olD; rw [List.length_map]; exact Nat.le_refl _)]; rfl) (by
    rintro i σ h' li ⟨rfl, P, P', R, b, o3, o4, eE, eT, lP, lP', zb, rfl⟩
    cases R with
    | nil => rw [eE, List.length_append, lP] at li; simp at li
    | cons o R =>
      have ai : E[i]? = some o := by rw [eE, List.getElem?_append_right (by omega), lP, Nat.sub_self]; rfl
      have sa : srcAt (h ++ [olD (mix (rmx a E) E i), olD E]) (.enum (.ref (h.length + 1))) i = some (some (.tup [.int i, oD o])) := by
        show (itemsD _ _).map _ = _
        rw [it2, om]
        unfold olD
        rw [List.getElem?_map, ai]; rfl
      cases o with
      | none =>
        have same : mix (rmx a E) E i = mix (rmx a E) E (i + 1) := mix_same lenT (by
          rw [ai, eT, List.getElem?_append_right (by omega), lP', Nat.sub_self]; rfl)
        refine ⟨_, (some x0 :: some (.ref h.length) :: some (frR b) :: some (.int i) :: some .non :: tl), h ++ [olD (mix (rmx a E) E i), olD E], sa, ?_, by rw [← same], P ++ [none], P' ++ [none], R, b, _, _, by rw [eE, List.append_assoc]; rfl, by rw [eT, List.append_assoc]; rfl, by simp [lP], by simp [lP'], zb, rfl⟩
        simp only [fn_G, con_G, pat_G, ev, evs, evAnd, evOr, evTests, asgT, asgTs, evIt, exe, exes, outD, startD, ob, om, g_b, b_add, b_sub, u_abs, u_int, u_intb, u_max, u_min, c_lt, c_le, c_gt, c_ge, c_eq, c_ne, eqD_int, eqD_bl, ix_0, ix_1, ix_2, fr_0, fr_1, isN_non, isN_fr, isN_e, isN_str, isN_int, isN_tup, lD_none, lD_some, oD_none, oD_some, isAbs, partR, tgS, tgSs, wipeD, List.map_cons, List.map_nil, List.length_cons, List.length_nil, List.cons_append, List.nil_append, List.append_nil, List.getElem?_cons_zero, List.getElem?_cons_succ, List.set_cons_zero, List.set_cons_succ, List.replicate_succ, List.replicate_zero, Nat.zero_add, Nat.add_sub_cancel, Nat.reduceAdd, Nat.reduceSub, Bool.not_true, Bool.not_false, Bool.false_eq_true, if_false, it_tup]
      | some x =>
        have zx : Sz m x := zE x (by rw [eE]; simp)
        have gr := hg b x (h ++ [olD (mix (rmx a E) E i), olD E]) zb zx
        have ati : (rmx a E)[i]? = some (some (if b < x then x else b)) := by
          rw [eT, List.getElem?_append_right (by omega), lP', Nat.sub_self]; rfl
        have c0 : (h ++ [olD (mix (rmx a E) E i), olD E])[h.length]? = some (olD (mix (rmx a E) E i)) := get_app _ _
        have st : setD (h ++ [olD (mix (rmx a E) E i), olD E]) (.ref h.length) (.int i) (frR (if b < x then x else b)) = some (h ++ [olD (mix (rmx a E) E (i + 1)), olD E]) := by
          rw [set_ref c0 (by rw [mix_len lenT, lenT]; exact li), mix_set lenT ati, cell_set2]
        refine ⟨_, (some x0 :: some (.ref h.length) :: some (frR (if b < x then x else b)) :: some (.int i) :: some (frR x) :: tl), h ++ [olD (mix (rmx a E) E (i + 1)), olD E], sa, ?_, rfl, P ++ [some x], P' ++ [some (if b < x then x else b)], R, (if b < x then x else b), _, _, by rw [eE, List.append_assoc]; rfl, by rw [eT, List.append_assoc]; rfl, by simp [lP], by simp [lP'], by split <;> assumption, rfl⟩
        simp only [fn_G, con_G, pat_G, ev, evs, evAnd, evOr, evTests, asgT, asgTs, evIt, exe, exes, outD, startD, ob, om, g_b, b_add, b_sub, u_abs, u_int, u_intb, u_max, u_min, c_lt, c_le, c_gt, c_ge, c_eq, c_ne, eqD_int, eqD_bl, ix_0, ix_1, ix_2, fr_0, fr_1, isN_non, isN_fr, isN_e, isN_str, isN_int, isN_tup, lD_none, lD_some, oD_none, oD_some, isAbs, partR, tgS, tgSs, wipeD, List.map_cons, List.map_nil, List.length_cons, List.length_nil, List.cons_append, List.nil_append, List.append_nil, List.getElem?_cons_zero, List.getElem?_cons_succ, List.set_cons_zero, List.set_cons_succ, List.replicate_succ, List.replicate_zero, Nat.zero_add, Nat.add_sub_cancel, Nat.reduceAdd, Nat.reduceSub, Bool.not_true, Bool.not_false, Bool.false_eq_true, if_false, it_tup, gr, st])
  obtain ⟨σ3, h3, rfl, rfl, P, P', R, b, o3, o4, eE, eT, lP, lP', zb, rfl⟩ := W1
  refine ⟨some (frR b), o3, o4, ?_⟩
  rw [mix_all lenT (by omega)]
theorem r_settled_points {K : Nat} (hK : 6 ≤ K) {m : Nat} (m0 : 0 < m) (lm : m ≤ 1000) {ps : List (Rat × Option Rat)} (n0 : ps ≠ []) (len : ps.length < 1000) (ok : ∀ p ∈ ps, PtOk m p) (h : MH) :
    ∃ h', runD K i_settled_points [.tup (ps.map ptD)] h = some (.tup ((setP ps).map pvD), h') ∧ Ap h h' := by
  obtain ⟨k, rfl⟩ : ∃ k, K = k + 1 := ⟨K - 1, by omega⟩
  rw [run_settled_points _ _ _ rfl]
  have it : ∀ h, itemsD h (.tup (ps.map ptD)) = some (ps.map ptD) := fun _ => rfl
  obtain ⟨L, eL⟩ : ∃ L : OL, ps.map (·.2) = L := ⟨_, rfl⟩
  have L0 : L ≠ [] := by rw [← eL]; simpa using n0
  have lL : L.length = ps.length := by rw [← eL, List.length_map]
  have zL : ∀ r, some r ∈ L → Sz m r := by
    intro r hr
    rw [← eL] at hr
    obtain ⟨p, hp, e⟩ := List.mem_map.mp hr
    exact (ok p hp).2 r e
  obtain ⟨a, t, eE, lE, lenE⟩ := ends_ok L L0
  obtain ⟨a', t', eT, lT, lenT, t2, eE2, et'⟩ := told1_ok L L0
  have a2 : a' = a := by rw [eE] at eE2; cases eE2; rfl
  subst a2
  have zT := told1_sz m0 L L0 zL
  have zE : ∀ r, some r ∈ ends L → Sz m r := by
    intro r hr
    rcases endsN_mem _ r hr with e | e
    · rw [e]; exact Sz1.mono m0
    · rcases ends1_mem _ r e with e | e
      · rw [e]; exact Sz0.mono m0
      · exact zL r e
  have s1 : exe (GmD k) (.asg (.nm 1) (.lc (.idx (.var 5) (.int 1)) (.nm 5) (.ex (.var 0)) [])) (startD 6 [.tup (ps.map ptD)]) h = some (.nx, [some (.tup (ps.map ptD)), some (.ref h.length), none, none, none, none], h ++ [olD L]) := by
    simp only [fn_G, con_G, pat_G, ev, evs, evAnd, evOr, evTests, asgT, asgTs, evIt, exe, exes, outD, startD, ob, om, g_b, b_add, b_sub, u_abs, u_int, u_intb, u_max, u_min, c_lt, c_le, c_gt, c_ge, c_eq, c_ne, eqD_int, eqD_bl, ix_0, ix_1, ix_2, fr_0, fr_1, isN_non, isN_fr, isN_e, isN_str, isN_int, isN_tup, lD_none, lD_some, oD_none, oD_some, isAbs, partR, tgS, tgSs, wipeD, List.map_cons, List.map_nil, List.length_cons, List.length_nil, List.cons_append, List.nil_append, List.append_nil, List.getElem?_cons_zero, List.getElem?_cons_succ, List.set_cons_zero, List.set_cons_succ, List.replicate_succ, List.replicate_zero, Nat.zero_add, Nat.add_sub_cancel, Nat.reduceAdd, Nat.reduceSub, Bool.not_true, Bool.not_false, Bool.false_eq_true, if_false, it, Option.isSome_some, if_true]
    generalize hf : lcL _ _ _ _ _ _ = X
    have X2 := lc_pure ptD (fun p => oD p.2) hf ps (by simp [srcLen, it]) (fun i => rfl) (fun p _ => by simp only [fn_G, con_G, pat_G, ev, evs, evAnd, evOr, evTests, asgT, asgTs, evIt, exe, exes, outD, startD, ob, om, g_b, b_add, b_sub, u_abs, u_int, u_intb, u_max, u_min, c_lt, c_le, c_gt, c_ge, c_eq, c_ne, eqD_int, eqD_bl, ix_0, ix_1, ix_2, fr_0, fr_1, isN_non, isN_fr, isN_e, isN_str, isN_int, isN_tup, lD_none, lD_some, oD_none, oD_some, isAbs, partR, tgS, tgSs, wipeD, List.map_cons, List.map_nil, List.length_cons, List.length_nil, List.cons_append, List.nil_append, List.append_nil, List.getElem?_cons_zero, List.getElem?_cons_succ, List.set_cons_zero, List.set_cons_succ, List.replicate_succ, List.replicate_zero, Nat.zero_add, Nat.add_sub_cancel, Nat.reduceAdd, Nat.reduceSub, Bool.not_true, Bool.not_false, Bool.false_eq_true, if_false, pt_i1])
    clear hf
    subst X2
    have e2 : (ps.map fun p => oD p.2) = olD L := by rw [← eL]; unfold olD; rw [List.map_map]; rfl
    have l2 : ((olD L).length ≤ LIM) = True := by unfold olD; rw [List.length_map, lL]; simp [LIM]; omega
    simp only [fn_G, con_G, pat_G, ev, evs, evAnd, evOr, evTests, asgT, asgTs, evIt, exe, exes, outD, startD, ob, om, g_b, b_add, b_sub, u_abs, u_int, u_intb, u_max, u_min, c_lt, c_le, c_gt, c_ge, c_eq, c_ne, eqD_int, eqD_bl, ix_0, ix_1, ix_2, fr_0, fr_1, isN_non, isN_fr, isN_e, isN_str, isN_int, isN_tup, lD_none, lD_some, oD_none, oD_some, isAbs, partR, tgS, tgSs, wipeD, List.map_cons, List.map_nil, List.length_cons, List.length_nil, List.cons_append, List.nil_append, List.append_nil, List.getElem?_cons_zero, List.getElem?_cons_succ, List.set_cons_zero, List.set_cons_succ, List.replicate_succ, List.replicate_zero, Nat.zero_add, Nat.add_sub_cancel, Nat.reduceAdd, Nat.reduceSub, Bool.not_true, Bool.not_false, Bool.false_eq_true, if_false, e2, l2, if_true]
  have s2 : exe (GmD k) (.ift (.isN (.idx (.var 1) (.int 0))) [(.asg (.sub (.var 1) (.int 0)) (.glob c_ZERO))] []) [some (.tup (ps.map ptD)), some (.ref h.length), none, none, none, none] (h ++ [olD L]) = some (.nx, [some (.tup (ps.map ptD)), some (.ref h.length), none, none, none, none], h ++ [olD (ends1 L)]) := by
    have cell := get_app (h := h) (olD L) []
    cases L with
    | nil => exact absurd rfl L0
    | cons o r =>
      have i0 := ixl_0 cell (o := o) rfl
      cases o with
      | none =>
        have st : setD (h ++ [olD (none :: r)]) (.ref h.length) (.int 0) (frR 0) = some (h ++ [olD (some 0 :: r)]) := by
          have := set_ref cell (i := 0) (by simp) 0
          rw [cell_set] at this
          exact this
        simp only [fn_G, con_G, pat_G, ev, evs, evAnd, evOr, evTests, asgT, asgTs, evIt, exe, exes, outD, startD, ob, om, g_b, b_add, b_sub, u_abs, u_int, u_intb, u_max, u_min, c_lt, c_le, c_gt, c_ge, c_eq, c_ne, eqD_int, eqD_bl, ix_0, ix_1, ix_2, fr_0, fr_1, isN_non, isN_fr, isN_e, isN_str, isN_int, isN_tup, lD_none, lD_some, oD_none, oD_some, isAbs, partR, tgS, tgSs, wipeD, List.map_cons, List.map_nil, List.length_cons, List.length_nil, List.cons_append, List.nil_append, List.append_nil, List.getElem?_cons_zero, List.getElem?_cons_succ, List.set_cons_zero, List.set_cons_succ, List.replicate_succ, List.replicate_zero, Nat.zero_add, Nat.add_sub_cancel, Nat.reduceAdd, Nat.reduceSub, Bool.not_true, Bool.not_false, Bool.false_eq_true, if_false, i0, con0, st]
        rfl
      | some x =>
        simp only [fn_G, con_G, pat_G, ev, evs, evAnd, evOr, evTests, asgT, asgTs, evIt, exe, exes, outD, startD, ob, om, g_b, b_add, b_sub, u_abs, u_int, u_intb, u_max, u_min, c_lt, c_le, c_gt, c_ge, c_eq, c_ne, eqD_int, eqD_bl, ix_0, ix_1, ix_2, fr_0, fr_1, isN_non, isN_fr, isN_e, isN_str, isN_int, isN_tup, lD_none, lD_some, oD_none, oD_some, isAbs, partR, tgS, tgSs, wipeD, List.map_cons, List.map_nil, List.length_cons, List.length_nil, List.cons_append, List.nil_append, List.append_nil, List.getElem?_cons_zero, List.getElem?_cons_succ, List.set_cons_zero, List.set_cons_succ, List.replicate_succ, List.replicate_zero, Nat.zero_add, Nat.add_sub_cancel, Nat.reduceAdd, Nat.reduceSub, Bool.not_true, Bool.not_false, Bool.false_eq_true, if_false, i0]
        rfl
  have s3 : exe (GmD k) (.ift (.isN (.idx (.var 1) (.neg (.int 1)))) [(.asg (.sub (.var 1) (.neg (.int 1))) (.glob c_ONE))] []) [some (.tup (ps.map ptD)), some (.ref h.length), none, none, none, none] (h ++ [olD (ends1 L)]) = some (.nx, [some (.tup (ps.map ptD)), some (.ref h.length), none, none, none, none], h ++ [olD (ends L)]) := by
    have cell := get_app (h := h) (olD (ends1 L)) []
    have l1 : 0 < (ends1 L).length := by rw [ends1_len]; exact List.length_pos_iff.mpr L0
    cases eg : (ends1 L).getLast? with
    | none => rw [List.getLast?_eq_none_iff] at eg; rw [eg] at l1; exact absurd l1 (by simp)
    | some o =>
      have i0 := ixl_m1 cell eg
      cases o with
      | none =>
        have st : setD (h ++ [olD (ends1 L)]) (.ref h.length) (.int (-1)) (frR 1) = some (h ++ [olD (ends L)]) := by
          have := set_m1 cell l1 1
          rw [cell_set, ← endsN_set _ eg] at this
          exact this
        simp only [fn_G, con_G, pat_G, ev, evs, evAnd, evOr, evTests, asgT, asgTs, evIt, exe, exes, outD, startD, ob, om, g_b, b_add, b_sub, u_abs, u_int, u_intb, u_max, u_min, c_lt, c_le, c_gt, c_ge, c_eq, c_ne, eqD_int, eqD_bl, ix_0, ix_1, ix_2, fr_0, fr_1, isN_non, isN_fr, isN_e, isN_str, isN_int, isN_tup, lD_none, lD_some, oD_none, oD_some, isAbs, partR, tgS, tgSs, wipeD, List.map_cons, List.map_nil, List.length_cons, List.length_nil, List.cons_append, List.nil_append, List.append_nil, List.getElem?_cons_zero, List.getElem?_cons_succ, List.set_cons_zero, List.set_cons_succ, List.replicate_succ, List.replicate_zero, Nat.zero_add, Nat.add_sub_cancel, Nat.reduceAdd, Nat.reduceSub, Bool.not_true, Bool.not_false, Bool.false_eq_true, if_false, i0, con1, st]
      | some x =>
        have := endsN_same _ _ eg
        simp only [fn_G, con_G, pat_G, ev, evs, evAnd, evOr, evTests, asgT, asgTs, evIt, exe, exes, outD, startD, ob, om, g_b, b_add, b_sub, u_abs, u_int, u_intb, u_max, u_min, c_lt, c_le, c_gt, c_ge, c_eq, c_ne, eqD_int, eqD_bl, ix_0, ix_1, ix_2, fr_0, fr_1, isN_non, isN_fr, isN_e, isN_str, isN_int, isN_tup, lD_none, lD_some, oD_none, oD_some, isAbs, partR, tgS, tgSs, wipeD, List.map_cons, List.map_nil, List.length_cons, List.length_nil, List.cons_append, List.nil_append, List.append_nil, List.getElem?_cons_zero, List.getElem?_cons_succ, List.set_cons_zero, List.set_cons_succ, List.replicate_succ, List.replicate_zero, Nat.zero_add, Nat.add_sub_cancel, Nat.reduceAdd, Nat.reduceSub, Bool.not_true, Bool.not_false, Bool.false_eq_true, if_false, i0]
        show some (Fl.nx, _, h ++ [olD (ends1 L)]) = some (Fl.nx, _, h ++ [olD (endsN (ends1 L))])
        rw [this]
  have s4 : exe (GmD k) (.asg (.nm 2) (.idx (.var 1) (.int 0))) [some (.tup (ps.map ptD)), some (.ref h.length), none, none, none, none] (h ++ [olD (ends L)]) = some (.nx, [some (.tup (ps.map ptD)), some (.ref h.length), some (frR a'), none, none, none], h ++ [olD (ends L)]) := by
    have cell := get_app (h := h) (olD (ends L)) []
    have i0 := ixl_0 cell (o := some a') (by rw [eE]; rfl)
    simp only [fn_G, con_G, pat_G, ev, evs, evAnd, evOr, evTests, asgT, asgTs, evIt, exe, exes, outD, startD, ob, om, g_b, b_add, b_sub, u_abs, u_int, u_intb, u_max, u_min, c_lt, c_le, c_gt, c_ge, c_eq, c_ne, eqD_int, eqD_bl, ix_0, ix_1, ix_2, fr_0, fr_1, isN_non, isN_fr, isN_e, isN_str, isN_int, isN_tup, lD_none, lD_some, oD_none, oD_some, isAbs, partR, tgS, tgSs, wipeD, List.map_cons, List.map_nil, List.length_cons, List.length_nil, List.cons_append, List.nil_append, List.append_nil, List.getElem?_cons_zero, List.getElem?_cons_succ, List.set_cons_zero, List.set_cons_succ, List.replicate_succ, List.replicate_zero, Nat.zero_add, Nat.add_sub_cancel, Nat.reduceAdd, Nat.reduceSub, Bool.not_true, Bool.not_false, Bool.false_eq_true, if_false, i0]
  obtain ⟨o2, o3, o4, s5⟩ := sp_most (k := k) (g := i_greater) (m := m) (fun a b h za zb => by
    have := r_greater (show 3 ≤ k by omega) (a := .fin a) (b := .fin b) (n := m) (m := m) za zb (by omega) h
    rw [emax_f] at this
    exact this) (x0 := .tup (ps.map ptD)) (h := h) (E := ends L) [none] (zE a' (by rw [eE]; simp)) zE (by omega)
  have eT1 : rmx a' (ends L) = told1 L := by unfold told1; rw [eE]; rfl
  rw [eT1] at s5
  have cell : (h ++ [olD (told1 L), olD (ends L)])[h.length]? = some (olD (some a' :: t')) := by rw [get_app, eT]
  have sp := r_spread (show 5 ≤ k by omega) lm cell (by rw [← eT]; exact lT.told) (by have := lenT; rw [eT, List.length_cons] at this; omega) (zT a' (by rw [eT]; simp)) (fun r hr => zT r (by rw [eT]; exact List.mem_cons_of_mem _ hr))
  have eS : a' :: spr a' t' = setI L := by unfold setI; rw [eT]; rfl
  rw [eS] at sp
  have hq : (h ++ [olD (told1 L), olD (ends L)]).length = h.length + 2 := by rw [List.length_append]; rfl
  rw [hq, List.append_assoc] at sp
  have lS : (setI L).length = ps.length := by rw [setI_len, lL]
  have cellS : (h ++ ([olD (told1 L), olD (ends L)] ++ [(setI L).map frR]))[h.length + 2]? = some ((setI L).map frR) := by
    rw [List.getElem?_append_right (by omega), show h.length + 2 - h.length = 2 by omega]; rfl
  have lhS : (h ++ ([olD (told1 L), olD (ends L)] ++ [(setI L).map frR])).length = h.length + 3 := by simp
  have s6 : ∃ h', exe (GmD k) (.ret (.bi .tuple [(.lc (.tup [(.idx (.var 5) (.int 0)), (.var 4)]) (.tp [(.nm 5), (.nm 4)]) (.zip (.var 0) (.call i_spread [(.var 1)])) [])])) [some (.tup (ps.map ptD)), some (.ref h.length), o2, o3, o4, none] (h ++ [olD (told1 L), olD (ends L)]) =
      some (.rt (.tup ((setP ps).map pvD)), [some (.tup (ps.map ptD)), some (.ref h.length), o2, o3, o4, none], h') ∧ Ap h h' := by
    generalize eh3 : h ++ ([olD (told1 L), olD (ends L)] ++ [(setI L).map frR]) = h3 at sp cellS lhS
    have itS : itemsD h3 (.ref (h.length + 2)) = some ((setI L).map frR) := cellS
    have lim2 : (0 + 1 + 1 ≤ LIM) = True := by simp [LIM]
    simp only [fn_G, con_G, pat_G, ev, evs, evAnd, evOr, evTests, asgT, asgTs, evIt, exe, exes, outD, startD, ob, om, g_b, b_add, b_sub, u_abs, u_int, u_intb, u_max, u_min, c_lt, c_le, c_gt, c_ge, c_eq, c_ne, eqD_int, eqD_bl, ix_0, ix_1, ix_2, fr_0, fr_1, isN_non, isN_fr, isN_e, isN_str, isN_int, isN_tup, lD_none, lD_some, oD_none, oD_some, isAbs, partR, tgS, tgSs, wipeD, List.map_cons, List.map_nil, List.length_cons, List.length_nil, List.cons_append, List.nil_append, List.append_nil, List.getElem?_cons_zero, List.getElem?_cons_succ, List.set_cons_zero, List.set_cons_succ, List.replicate_succ, List.replicate_zero, Nat.zero_add, Nat.add_sub_cancel, Nat.reduceAdd, Nat.reduceSub, Bool.not_true, Bool.not_false, Bool.false_eq_true, if_false, sp, it, itS, Option.isSome_some, isL, and_self, Bool.or_true, if_true]
    generalize hf : lcL _ _ _ _ _ _ = X
    have X2 := lc_pure (fun pr : (Rat × Option Rat) × Rat => .tup [ptD pr.1, frR pr.2]) (fun pr => pvD (pr.1.1, pr.2)) hf (ps.zip (setI L)) (by simp [srcLen, it, itS, List.length_zip]) (fun i => by
      simp only [srcAt, it_tup, itS, ob, om]
      congr 1
      by_cases li : i < ps.length
      · have lj : i < (setI L).length := by omega
        have g1 : (ps.zip (setI L))[i]? = some (ps[i], (setI L)[i]) := List.getElem?_zip_eq_some.mpr ⟨List.getElem?_eq_getElem li, List.getElem?_eq_getElem lj⟩
        have g2 : (ps.map ptD)[i]? = some (ptD ps[i]) := by rw [List.getElem?_map, List.getElem?_eq_getElem li]; rfl
        have g3 : ((setI L).map frR)[i]? = some (frR (setI L)[i]) := by rw [List.getElem?_map, List.getElem?_eq_getElem lj]; rfl
        rw [g2, g3, List.getElem?_map, g1]
        rfl
      · have g1 : (ps.zip (setI L))[i]? = none := List.getElem?_eq_none (by rw [List.length_zip]; omega)
        have g2 : (ps.map ptD)[i]? = none := List.getElem?_eq_none (by rw [List.length_map]; omega)
        rw [g2]
        show none = _
        rw [List.getElem?_map, g1]
        rfl) (fun pr _ => by
      have itp : itemsD h3 (.tup [ptD pr.1, frR pr.2]) = some [ptD pr.1, frR pr.2] := rfl
      simp only [fn_G, con_G, pat_G, ev, evs, evAnd, evOr, evTests, asgT, asgTs, evIt, exe, exes, outD, startD, ob, om, g_b, b_add, b_sub, u_abs, u_int, u_intb, u_max, u_min, c_lt, c_le, c_gt, c_ge, c_eq, c_ne, eqD_int, eqD_bl, ix_0, ix_1, ix_2, fr_0, fr_1, isN_non, isN_fr, isN_e, isN_str, isN_int, isN_tup, lD_none, lD_some, oD_none, oD_some, isAbs, partR, tgS, tgSs, wipeD, List.map_cons, List.map_nil, List.length_cons, List.length_nil, List.cons_append, List.nil_append, List.append_nil, List.getElem?_cons_zero, List.getElem?_cons_succ, List.set_cons_zero, List.set_cons_succ, List.replicate_succ, List.replicate_zero, Nat.zero_add, Nat.add_sub_cancel, Nat.reduceAdd, Nat.reduceSub, Bool.not_true, Bool.not_false, Bool.false_eq_true, if_false, itp, pt_i0, lim2, if_true]
      rfl)
    clear hf
    subst X2
    have eP : ((ps.zip (setI L)).map fun pr : (Rat × Option Rat) × Rat => pvD (pr.1.1, pr.2)) = (setP ps).map pvD := by
      unfold setP
      rw [eL, List.zip_map_left, List.map_map]
      rfl
    have l2 : (((setP ps).map pvD).length ≤ LIM) = True := by simp [LIM, setP_len]; omega
    have tp : biD .tuple [.ref h3.length] (h3 ++ [(setP ps).map pvD]) = some (.tup ((setP ps).map pvD), h3 ++ [(setP ps).map pvD]) := by
      show ((h3 ++ [(setP ps).map pvD])[h3.length]?).map _ = _
      rw [get_app]; rfl
    simp only [fn_G, con_G, pat_G, ev, evs, evAnd, evOr, evTests, asgT, asgTs, evIt, exe, exes, outD, startD, ob, om, g_b, b_add, b_sub, u_abs, u_int, u_intb, u_max, u_min, c_lt, c_le, c_gt, c_ge, c_eq, c_ne, eqD_int, eqD_bl, ix_0, ix_1, ix_2, fr_0, fr_1, isN_non, isN_fr, isN_e, isN_str, isN_int, isN_tup, lD_none, lD_some, oD_none, oD_some, isAbs, partR, tgS, tgSs, wipeD, List.map_cons, List.map_nil, List.length_cons, List.length_nil, List.cons_append, List.nil_append, List.append_nil, List.getElem?_cons_zero, List.getElem?_cons_succ, List.set_cons_zero, List.set_cons_succ, List.replicate_succ, List.replicate_zero, Nat.zero_add, Nat.add_sub_cancel, Nat.reduceAdd, Nat.reduceSub, Bool.not_true, Bool.not_false, Bool.false_eq_true, if_false, eP, l2, if_true, tp]
    refine ⟨_, rfl, ⟨[olD (told1 L), olD (ends L)] ++ [(setI L).map frR] ++ [(setP ps).map pvD], ?_⟩⟩
    rw [← eh3]
    simp only [List.append_assoc]
  obtain ⟨h', s6, ap⟩ := s6
  refine ⟨h', outD_rt ((exes_nx s1).trans ((exes_nx s2).trans ((exes_nx s3).trans ((exes_nx s4).trans ((exes_nx s5).trans (exes_rt s6)))))), ap⟩

/-! ### values of lines -/
theorem pv_i0 (h : MH) (p : Rat × Rat) : idxD h (pvD p) (.int 0) = some (frR p.1) := ix_0 ..
theorem pv_i1 (h : MH) (p : Rat × Rat) : idxD h (pvD p) (.int 1) = some (frR p.2) := ix_1 ..
theorem pv_at (h : MH) {P : List (Rat × Rat)} {i : Nat} (l : i < P.length) : idxD h (.tup (P.map pvD)) (.int (i : Int)) = some (pvD (P.getD i (0, 0))) := by
  show atI (P.map pvD) i = _
  refine atI_nat ?_
  rw [List.getElem?_map, List.getElem?_eq_getElem l, List.getD_eq_getElem?_getD, List.getElem?_eq_getElem l]
  rfl
theorem ints_pd : ∀ js : List Int, pdIs (js.map .int) = some (js.map .int) ∧ PyData.canLayAll0 (js.map .int) = true ∧ PyData.depthAll (js.map .int) ≤ 1
  | [] => ⟨rfl, rfl, by decide⟩
  | j :: r => by
    obtain ⟨a, b, c⟩ := ints_pd r
    refine ⟨?_, ?_, ?_⟩
    · show (pdI (.int j)).bind _ = _
      rw [show pdI (.int j) = some (.int j) from rfl, ob, a]; rfl
    · rw [List.map_cons, PyData.canLayAll0, b]; rfl
    · rw [List.map_cons, PyData.depthAll]
      have : (PyData.int j).depth = 0 := rfl
      omega
theorem eqD_nilI {h : MH} {a b : Nat} {js : List Int} (e1 : h[a]? = some (js.map .int)) (e2 : h[b]? = some []) : eqD h (.ref a) (.ref b) = some (decide (js = [])) := by
  obtain ⟨p1, p2, p3⟩ := ints_pd js
  have q1 : pdT h (.ref a) = some (.list (js.map .int)) := by
    show (h[a]?).bind _ = _
    rw [e1, ob, p1]; rfl
  have q2 : pdT h (.ref b) = some (.list []) := by
    show (h[b]?).bind _ = _
    rw [e2, ob]; rfl
  have s : SeqAt.shaped (.list (js.map .int)) = true := by
    unfold SeqAt.shaped
    rw [PyData.canLay0, p2, PyData.depth, decide_eq_true (show PyData.depthAll (js.map .int) + 1 ≤ 64 by omega)]
    rfl
  unfold eqD
  rw [q1, q2, ob, ob, s, if_pos (by rfl)]
  cases js with
  | nil => rw [PyData.eqv]; rfl
  | cons j r => rw [List.map_cons, PyData.eqv]; rfl
theorem atI_m1 {α : Type} {xs : List α} {x : α} (e : xs.getLast? = some x) : atI xs (-1) = some x := by
  have l : 0 < xs.length := by cases xs with | nil => cases e | cons _ _ => simp
  unfold atI
  rw [ixN_m1 l]
  show xs[xs.length - 1]? = _
  rw [← List.getLast?_eq_getElem?, e]
theorem r_quotient {K : Nat} (hK : 3 ≤ K) {a b : Rat} {n m : Nat} (ha : Sz n a) (hb : Sz m b) (l : n + m ≤ 9000) (h0 : b ≠ 0) (h : MH) : runD K i_quotient [frR a, frR b] h = some (frR (a / b), h) := by
  obtain ⟨k, rfl⟩ : ∃ k, K = k + 1 := ⟨K - 1, by omega⟩
  rw [run_quotient _ _ _ rfl]
  obtain ⟨m1, m2, m3, m4, m5⟩ := muls ha hb l h
  obtain ⟨d1, d2⟩ := den9v ha hb l h0
  simp only [b_quotient, fn_G, con_G, pat_G, ev, evs, evAnd, evOr, evTests, asgT, asgTs, evIt, exe, exes, outD, startD, ob, om, g_b, b_add, b_sub, u_abs, u_int, u_intb, u_max, u_min, c_lt, c_le, c_gt, c_ge, c_eq, c_ne, eqD_int, eqD_bl, ix_0, ix_1, ix_2, fr_0, fr_1, isN_non, isN_fr, isN_e, isN_str, isN_int, isN_tup, lD_none, lD_some, oD_none, oD_some, isAbs, partR, tgS, tgSs, wipeD, List.map_cons, List.map_nil, List.length_cons, List.length_nil, List.cons_append, List.nil_append, List.append_nil, List.getElem?_cons_zero, List.getElem?_cons_succ, List.set_cons_zero, List.set_cons_succ, List.replicate_succ, List.replicate_zero, Nat.zero_add, Nat.add_sub_cancel, Nat.reduceAdd, Nat.reduceSub, Bool.not_true, Bool.not_false, Bool.false_eq_true, if_false, m1, m2, m3, m4, m5, r_ratio (show 2 ≤ k by omega) _ _ h d1 d2, div_frR]
theorem r_linear_value {K : Nat} (hK : 7 ≤ K) {m mx : Nat} (m0 : 0 < m) {ps : List (Rat × Option Rat)} (n0 : ps ≠ []) (len : ps.length < 1000) (ok : ∀ p ∈ ps, PtOk m p) {x : Rat} (zx : Sz mx x) (l9 : 12 * m + mx ≤ 8900) (h : MH) :
    ∃ h', runD K i_linear_value [.tup (ps.map ptD), frR x] h = some (frR (lnV ps x), h') ∧ Ap h h' := by
  obtain ⟨k, rfl⟩ : ∃ k, K = k + 1 := ⟨K - 1, by omega⟩
  rw [run_linear_value _ _ _ rfl]
  obtain ⟨h1, e1, a1⟩ := r_settled_points (show 6 ≤ k by omega) m0 (show m ≤ 1000 by omega) n0 len ok h
  have zP := setP_sz m0 len ok
  have lP := setP_len ps
  unfold lnV
  generalize setP ps = P at e1 zP lP
  have p0 : 0 < P.length := by rw [lP]; exact List.length_pos_iff.mpr n0
  have ln : ∀ h, biD .len [.tup (P.map pvD)] h = some (.int P.length, h) := fun h => by rw [u_len (it_tup _ _), List.length_map]
  have s1 : exe (GmD k) (.asg (.nm 0) (.call i_settled_points [(.var 0)])) (startD 7 [.tup (ps.map ptD), frR x]) h = some (.nx, [some (.tup (P.map pvD)), some (frR x), none, none, none, none, none], h1) := by
    simp only [fn_G, con_G, pat_G, ev, evs, evAnd, evOr, evTests, asgT, asgTs, evIt, exe, exes, outD, startD, ob, om, g_b, b_add, b_sub, u_abs, u_int, u_intb, u_max, u_min, c_lt, c_le, c_gt, c_ge, c_eq, c_ne, eqD_int, eqD_bl, ix_0, ix_1, ix_2, fr_0, fr_1, isN_non, isN_fr, isN_e, isN_str, isN_int, isN_tup, lD_none, lD_some, oD_none, oD_some, isAbs, partR, tgS, tgSs, wipeD, List.map_cons, List.map_nil, List.length_cons, List.length_nil, List.cons_append, List.nil_append, List.append_nil, List.getElem?_cons_zero, List.getElem?_cons_succ, List.set_cons_zero, List.set_cons_succ, List.replicate_succ, List.replicate_zero, Nat.zero_add, Nat.add_sub_cancel, Nat.reduceAdd, Nat.reduceSub, Bool.not_true, Bool.not_false, Bool.false_eq_true, if_false, e1]
  by_cases c1 : P.length = 1
  · have d1 : decide ((P.length : Int) = 1) = true := decide_eq_true (by omega)
    have i0 := pv_at h1 p0
    have i0 : idxD h1 (.tup (P.map pvD)) (.int 0) = some (pvD (P.getD 0 (0, 0))) := i0
    have s2 : exe (GmD k) (.ift (.cmp .eq (.bi .len [(.var 0)]) (.int 1)) [(.ret (.idx (.idx (.var 0) (.int 0)) (.int 0)))] []) [some (.tup (P.map pvD)), some (frR x), none, none, none, none, none] h1 = some (.rt (frR (linV P x)), [some (.tup (P.map pvD)), some (frR x), none, none, none, none, none], h1) := by
      unfold linV
      rw [if_pos c1]
      simp only [fn_G, con_G, pat_G, ev, evs, evAnd, evOr, evTests, asgT, asgTs, evIt, exe, exes, outD, startD, ob, om, g_b, b_add, b_sub, u_abs, u_int, u_intb, u_max, u_min, c_lt, c_le, c_gt, c_ge, c_eq, c_ne, eqD_int, eqD_bl, ix_0, ix_1, ix_2, fr_0, fr_1, isN_non, isN_fr, isN_e, isN_str, isN_int, isN_tup, lD_none, lD_some, oD_none, oD_some, isAbs, partR, tgS, tgSs, wipeD, List.map_cons, List.map_nil, List.length_cons, List.length_nil, List.cons_append, List.nil_append, List.append_nil, List.getElem?_cons_zero, List.getElem?_cons_succ, List.set_cons_zero, List.set_cons_succ, List.replicate_succ, List.replicate_zero, Nat.zero_add, Nat.add_sub_cancel, Nat.reduceAdd, Nat.reduceSub, Bool.not_true, Bool.not_false, Bool.false_eq_true, if_false, ln, d1, i0, pv_i0]
    exact ⟨h1, outD_rt ((exes_nx s1).trans (exes_rt s2)), a1⟩
  · have d1 : decide ((P.length : Int) = 1) = false := decide_eq_false (by omega)
    have s2 : exe (GmD k) (.ift (.cmp .eq (.bi .len [(.var 0)]) (.int 1)) [(.ret (.idx (.idx (.var 0) (.int 0)) (.int 0)))] []) [some (.tup (P.map pvD)), some (frR x), none, none, none, none, none] h1 = some (.nx, [some (.tup (P.map pvD)), some (frR x), none, none, none, none, none], h1) := by
      simp only [fn_G, con_G, pat_G, ev, evs, evAnd, evOr, evTests, asgT, asgTs, evIt, exe, exes, outD, startD, ob, om, g_b, b_add, b_sub, u_abs, u_int, u_intb, u_max, u_min, c_lt, c_le, c_gt, c_ge, c_eq, c_ne, eqD_int, eqD_bl, ix_0, ix_1, ix_2, fr_0, fr_1, isN_non, isN_fr, isN_e, isN_str, isN_int, isN_tup, lD_none, lD_some, oD_none, oD_some, isAbs, partR, tgS, tgSs, wipeD, List.map_cons, List.map_nil, List.length_cons, List.length_nil, List.cons_append, List.nil_append, List.append_nil, List.getElem?_cons_zero, List.getElem?_cons_succ, List.set_cons_zero, List.set_cons_succ, List.replicate_succ, List.replicate_zero, Nat.zero_add, Nat.add_sub_cancel, Nat.reduceAdd, Nat.reduceSub, Bool.not_true, Bool.not_false, Bool.false_eq_true, if_false, ln, d1]
    obtain ⟨F, hF⟩ : ∃ F, P.map (·.2) = F := ⟨_, rfl⟩
    obtain ⟨N, hN⟩ : ∃ N, P.length = N + 1 := ⟨P.length - 1, by omega⟩
    have Fi : ∀ i, (P.getD i (0, 0)).2 = F.getD i 0 := fun i => by
      rw [← hF, List.getD_eq_getElem?_getD, List.getD_eq_getElem?_getD, List.getElem?_map]
      cases P[i]? <;> rfl
    have s3 : exe (GmD k) (.asg (.nm 2) (.lc (.var 3) (.nm 3) (.rng1 (.bin .sub (.bi .len [(.var 0)]) (.int 1))) [(.notE (.call i_less [(.var 1), (.idx (.idx (.var 0) (.var 3)) (.int 1))]))])) [some (.tup (P.map pvD)), some (frR x), none, none, none, none, none] h1 =
        some (.nx, [some (.tup (P.map pvD)), some (frR x), some (.ref h1.length), none, none, none, none], h1 ++ [((les F x N).map (fun (n : Nat) => (n : Int))).map .int]) := by
      obtain ⟨b1, hb1⟩ : ∃ b1 : Int, (P.length : Int) - 1 = b1 := ⟨_, rfl⟩
      have rg : okR b1 = true := okR_of (by omega) (by omega)
      have eb : b1.toNat = N := by omega
      simp only [fn_G, con_G, pat_G, ev, evs, evAnd, evOr, evTests, asgT, asgTs, evIt, exe, exes, outD, startD, ob, om, g_b, b_add, b_sub, u_abs, u_int, u_intb, u_max, u_min, c_lt, c_le, c_gt, c_ge, c_eq, c_ne, eqD_int, eqD_bl, ix_0, ix_1, ix_2, fr_0, fr_1, isN_non, isN_fr, isN_e, isN_str, isN_int, isN_tup, lD_none, lD_some, oD_none, oD_some, isAbs, partR, tgS, tgSs, wipeD, List.map_cons, List.map_nil, List.length_cons, List.length_nil, List.cons_append, List.nil_append, List.append_nil, List.getElem?_cons_zero, List.getElem?_cons_succ, List.set_cons_zero, List.set_cons_succ, List.replicate_succ, List.replicate_zero, Nat.zero_add, Nat.add_sub_cancel, Nat.reduceAdd, Nat.reduceSub, Bool.not_true, Bool.not_false, Bool.false_eq_true, if_false, ln, hb1, rg, if_true]
      generalize hf : lcL _ _ _ _ _ _ = X
      have X2 := lc_some hf N (fun i => .int (0 + (i : Int))) (fun i => !decide (x < F.getD i 0)) (fun i => .int (0 + (i : Int))) (by show N < b1.toNat + 1; omega) (fun i => by
        show some (if i < b1.toNat then _ else none) = _
        rw [eb]) (fun i li => by
        have pi := pv_at h1 (show i < P.length by omega)
        have lt := r_less (show 2 ≤ k by omega) zx (zP _ (getD_mem (d := (0, 0)) (show i < P.length by omega))).2 (by omega) h1
        rw [Fi] at lt
        cases q : decide (x < F.getD i 0) with
        | true =>
          rw [q] at lt
          simp only [fn_G, con_G, pat_G, ev, evs, evAnd, evOr, evTests, asgT, asgTs, evIt, exe, exes, outD, startD, ob, om, g_b, b_add, b_sub, u_abs, u_int, u_intb, u_max, u_min, c_lt, c_le, c_gt, c_ge, c_eq, c_ne, eqD_int, eqD_bl, ix_0, ix_1, ix_2, fr_0, fr_1, isN_non, isN_fr, isN_e, isN_str, isN_int, isN_tup, lD_none, lD_some, oD_none, oD_some, isAbs, partR, tgS, tgSs, wipeD, List.map_cons, List.map_nil, List.length_cons, List.length_nil, List.cons_append, List.nil_append, List.append_nil, List.getElem?_cons_zero, List.getElem?_cons_succ, List.set_cons_zero, List.set_cons_succ, List.replicate_succ, List.replicate_zero, Nat.zero_add, Nat.add_sub_cancel, Nat.reduceAdd, Nat.reduceSub, Bool.not_true, Bool.not_false, Bool.false_eq_true, if_false, Int.zero_add, pi, pv_i1, Fi, lt]
        | false =>
          rw [q] at lt
          simp only [fn_G, con_G, pat_G, ev, evs, evAnd, evOr, evTests, asgT, asgTs, evIt, exe, exes, outD, startD, ob, om, g_b, b_add, b_sub, u_abs, u_int, u_intb, u_max, u_min, c_lt, c_le, c_gt, c_ge, c_eq, c_ne, eqD_int, eqD_bl, ix_0, ix_1, ix_2, fr_0, fr_1, isN_non, isN_fr, isN_e, isN_str, isN_int, isN_tup, lD_none, lD_some, oD_none, oD_some, isAbs, partR, tgS, tgSs, wipeD, List.map_cons, List.map_nil, List.length_cons, List.length_nil, List.cons_append, List.nil_append, List.append_nil, List.getElem?_cons_zero, List.getElem?_cons_succ, List.set_cons_zero, List.set_cons_succ, List.replicate_succ, List.replicate_zero, Nat.zero_add, Nat.add_sub_cancel, Nat.reduceAdd, Nat.reduceSub, Bool.not_true, Bool.not_false, Bool.false_eq_true, if_false, Int.zero_add, pi, pv_i1, Fi, lt, if_true])
      clear hf
      subst X2
      have em : ((List.range N).filter (fun i => !decide (x < F.getD i 0))).map (fun (i : Nat) => D.int (0 + (i : Int))) = ((les F x N).map (fun (n : Nat) => (n : Int))).map .int := by
        unfold les
        rw [List.map_map]
        refine List.map_congr_left fun i _ => ?_
        show D.int (0 + (i : Int)) = D.int (i : Int)
        rw [Int.zero_add]
      have l2 : ((((les F x N).map (fun (n : Nat) => (n : Int))).map D.int).length ≤ LIM) = True := by
        refine eq_true ?_
        show _ ≤ 1000000
        rw [List.length_map, List.length_map]
        exact Nat.le_trans (List.length_filter_le _ _) (by rw [List.length_range]; omega)
      simp only [fn_G, con_G, pat_G, ev, evs, evAnd, evOr, evTests, asgT, asgTs, evIt, exe, exes, outD, startD, ob, om, g_b, b_add, b_sub, u_abs, u_int, u_intb, u_max, u_min, c_lt, c_le, c_gt, c_ge, c_eq, c_ne, eqD_int, eqD_bl, ix_0, ix_1, ix_2, fr_0, fr_1, isN_non, isN_fr, isN_e, isN_str, isN_int, isN_tup, lD_none, lD_some, oD_none, oD_some, isAbs, partR, tgS, tgSs, wipeD, List.map_cons, List.map_nil, List.length_cons, List.length_nil, List.cons_append, List.nil_append, List.append_nil, List.getElem?_cons_zero, List.getElem?_cons_succ, List.set_cons_zero, List.set_cons_succ, List.replicate_succ, List.replicate_zero, Nat.zero_add, Nat.add_sub_cancel, Nat.reduceAdd, Nat.reduceSub, Bool.not_true, Bool.not_false, Bool.false_eq_true, if_false, em, l2, if_true]
    have cJ := get_app (h := h1) (((les F x N).map (fun (n : Nat) => (n : Int))).map .int) []
    have lim0 : (0 ≤ LIM) = True := by simp [LIM]
    obtain ⟨i, hi⟩ : ∃ i, lastLe F x N = i := ⟨_, rfl⟩
    have s4 : exe (GmD k) (.asg (.nm 3) (.ife (.cmp .ne (.var 2) (.lst [])) (.idx (.var 2) (.neg (.int 1))) (.int 0))) [some (.tup (P.map pvD)), some (frR x), some (.ref h1.length), none, none, none, none] (h1 ++ [((les F x N).map (fun (n : Nat) => (n : Int))).map .int]) =
        some (.nx, [some (.tup (P.map pvD)), some (frR x), some (.ref h1.length), some (.int (i : Int)), none, none, none], (h1 ++ [((les F x N).map (fun (n : Nat) => (n : Int))).map .int]) ++ [[]]) := by
      generalize eh2 : h1 ++ [((les F x N).map (fun (n : Nat) => (n : Int))).map .int] = h2 at cJ
      have l2 := (List.getElem?_eq_some_iff.mp cJ).1
      have cJ2 : (h2 ++ [[]])[h1.length]? = some (((les F x N).map (fun (n : Nat) => (n : Int))).map .int) := by
        rw [List.getElem?_append_left l2]; exact cJ
      have cN : (h2 ++ [[]])[h2.length]? = some [] := get_app _ _
      have eq := eqD_nilI cJ2 cN
      cases q : (les F x N).getLast? with
      | none =>
        have nil : les F x N = [] := List.getLast?_eq_none_iff.mp q
        have i0 : i = 0 := by rw [← hi]; unfold lastLe; rw [q]; rfl
        rw [nil, List.map_nil, decide_eq_true rfl] at eq
        subst i0
        simp only [fn_G, con_G, pat_G, ev, evs, evAnd, evOr, evTests, asgT, asgTs, evIt, exe, exes, outD, startD, ob, om, g_b, b_add, b_sub, u_abs, u_int, u_intb, u_max, u_min, c_lt, c_le, c_gt, c_ge, c_eq, c_ne, eqD_int, eqD_bl, ix_0, ix_1, ix_2, fr_0, fr_1, isN_non, isN_fr, isN_e, isN_str, isN_int, isN_tup, lD_none, lD_some, oD_none, oD_some, isAbs, partR, tgS, tgSs, wipeD, List.map_cons, List.map_nil, List.length_cons, List.length_nil, List.cons_append, List.nil_append, List.append_nil, List.getElem?_cons_zero, List.getElem?_cons_succ, List.set_cons_zero, List.set_cons_succ, List.replicate_succ, List.replicate_zero, Nat.zero_add, Nat.add_sub_cancel, Nat.reduceAdd, Nat.reduceSub, Bool.not_true, Bool.not_false, Bool.false_eq_true, if_false, lim0, if_true, eq]
        rfl
      | some j =>
        have i0 : i = j := by rw [← hi]; unfold lastLe; rw [q]; rfl
        have nn : ((les F x N).map (fun (n : Nat) => (n : Int))) ≠ [] := by
          intro z
          rw [List.map_eq_nil_iff] at z
          rw [z] at q; cases q
        rw [decide_eq_false nn] at eq
        have im : idxD (h2 ++ [[]]) (.ref h1.length) (.int (-1)) = some (.int (j : Int)) := by
          rw [ix_r cJ2]
          exact atI_m1 (by rw [List.getLast?_map, List.getLast?_map, q]; rfl)
        subst i0
        simp only [fn_G, con_G, pat_G, ev, evs, evAnd, evOr, evTests, asgT, asgTs, evIt, exe, exes, outD, startD, ob, om, g_b, b_add, b_sub, u_abs, u_int, u_intb, u_max, u_min, c_lt, c_le, c_gt, c_ge, c_eq, c_ne, eqD_int, eqD_bl, ix_0, ix_1, ix_2, fr_0, fr_1, isN_non, isN_fr, isN_e, isN_str, isN_int, isN_tup, lD_none, lD_some, oD_none, oD_some, isAbs, partR, tgS, tgSs, wipeD, List.map_cons, List.map_nil, List.length_cons, List.length_nil, List.cons_append, List.nil_append, List.append_nil, List.getElem?_cons_zero, List.getElem?_cons_succ, List.set_cons_zero, List.set_cons_succ, List.replicate_succ, List.replicate_zero, Nat.zero_add, Nat.add_sub_cancel, Nat.reduceAdd, Nat.reduceSub, Bool.not_true, Bool.not_false, Bool.false_eq_true, if_false, lim0, if_true, eq, im]
    have li : i < N := by rw [← hi]; exact lastLe_lt (by omega)
    obtain ⟨h3, eh3⟩ : ∃ h3, (h1 ++ [((les F x N).map (fun (n : Nat) => (n : Int))).map .int]) ++ [[]] = h3 := ⟨_, rfl⟩
    rw [eh3] at s4
    have ap3 : Ap h h3 := a1.trans ⟨[((les F x N).map (fun (n : Nat) => (n : Int))).map .int] ++ [[]], by rw [← eh3, List.append_assoc]⟩
    obtain ⟨p, hp⟩ : ∃ p, P.getD i (0, 0) = p := ⟨_, rfl⟩
    obtain ⟨q, hq⟩ : ∃ q, P.getD (i + 1) (0, 0) = q := ⟨_, rfl⟩
    have zp : Sz m p.1 ∧ Sz (3 * m + 12) p.2 := by rw [← hp]; exact zP _ (getD_mem (by omega))
    have zq : Sz m q.1 ∧ Sz (3 * m + 12) q.2 := by rw [← hq]; exact zP _ (getD_mem (by omega))
    have x1 : idxD h3 (.tup (P.map pvD)) (.int (i : Int)) = some (pvD p) := by rw [← hp]; exact pv_at h3 (by omega)
    have x2 : idxD h3 (.tup (P.map pvD)) (.int ((i : Int) + 1)) = some (pvD q) := by rw [← hq]; exact pv_at h3 (i := i + 1) (by omega)
    have s5 : exe (GmD k) (.par 5 6 (.idx (.var 0) (.var 3)) (.idx (.var 0) (.bin .add (.var 3) (.int 1)))) [some (.tup (P.map pvD)), some (frR x), some (.ref h1.length), some (.int (i : Int)), none, none, none] h3 =
        some (.nx, [some (.tup (P.map pvD)), some (frR x), some (.ref h1.length), some (.int (i : Int)), none, some (pvD p), some (pvD q)], h3) := by
      simp only [fn_G, con_G, pat_G, ev, evs, evAnd, evOr, evTests, asgT, asgTs, evIt, exe, exes, outD, startD, ob, om, g_b, b_add, b_sub, u_abs, u_int, u_intb, u_max, u_min, c_lt, c_le, c_gt, c_ge, c_eq, c_ne, eqD_int, eqD_bl, ix_0, ix_1, ix_2, fr_0, fr_1, isN_non, isN_fr, isN_e, isN_str, isN_int, isN_tup, lD_none, lD_some, oD_none, oD_some, isAbs, partR, tgS, tgSs, wipeD, List.map_cons, List.map_nil, List.length_cons, List.length_nil, List.cons_append, List.nil_append, List.append_nil, List.getElem?_cons_zero, List.getElem?_cons_succ, List.set_cons_zero, List.set_cons_succ, List.replicate_succ, List.replicate_zero, Nat.zero_add, Nat.add_sub_cancel, Nat.reduceAdd, Nat.reduceSub, Bool.not_true, Bool.not_false, Bool.false_eq_true, if_false, x1, x2]
    have val : linV P x = if p.2 = q.2 then q.1 else p.1 + (q.1 - p.1) * ((x - p.2) / (q.2 - p.2)) := by
      unfold linV
      rw [if_neg c1, hF, hN, Nat.add_sub_cancel, hi]
      simp only [hp, hq]
    by_cases c2 : p.2 = q.2
    · rw [if_pos c2] at val
      have s6 : exe (GmD k) (.ift (.cmp .eq (.idx (.var 5) (.int 1)) (.idx (.var 6) (.int 1))) [(.ret (.idx (.var 6) (.int 0)))] []) [some (.tup (P.map pvD)), some (frR x), some (.ref h1.length), some (.int (i : Int)), none, some (pvD p), some (pvD q)] h3 =
          some (.rt (frR (linV P x)), [some (.tup (P.map pvD)), some (frR x), some (.ref h1.length), some (.int (i : Int)), none, some (pvD p), some (pvD q)], h3) := by
        rw [val]
        simp only [fn_G, con_G, pat_G, ev, evs, evAnd, evOr, evTests, asgT, asgTs, evIt, exe, exes, outD, startD, ob, om, g_b, b_add, b_sub, u_abs, u_int, u_intb, u_max, u_min, c_lt, c_le, c_gt, c_ge, c_eq, c_ne, eqD_int, eqD_bl, ix_0, ix_1, ix_2, fr_0, fr_1, isN_non, isN_fr, isN_e, isN_str, isN_int, isN_tup, lD_none, lD_some, oD_none, oD_some, isAbs, partR, tgS, tgSs, wipeD, List.map_cons, List.map_nil, List.length_cons, List.length_nil, List.cons_append, List.nil_append, List.append_nil, List.getElem?_cons_zero, List.getElem?_cons_succ, List.set_cons_zero, List.set_cons_succ, List.replicate_succ, List.replicate_zero, Nat.zero_add, Nat.add_sub_cancel, Nat.reduceAdd, Nat.reduceSub, Bool.not_true, Bool.not_false, Bool.false_eq_true, if_false, pv_i0, pv_i1, eqD_fr, decide_eq_true c2]
      exact ⟨h3, outD_rt ((exes_nx s1).trans ((exes_nx s2).trans ((exes_nx s3).trans ((exes_nx s4).trans ((exes_nx s5).trans (exes_rt s6)))))), ap3⟩
    · rw [if_neg c2] at val
      have s6 : exe (GmD k) (.ift (.cmp .eq (.idx (.var 5) (.int 1)) (.idx (.var 6) (.int 1))) [(.ret (.idx (.var 6) (.int 0)))] []) [some (.tup (P.map pvD)), some (frR x), some (.ref h1.length), some (.int (i : Int)), none, some (pvD p), some (pvD q)] h3 =
          some (.nx, [some (.tup (P.map pvD)), some (frR x), some (.ref h1.length), some (.int (i : Int)), none, some (pvD p), some (pvD q)], h3) := by
        simp only [fn_G, con_G, pat_G, ev, evs, evAnd, evOr, evTests, asgT, asgTs, evIt, exe, exes, outD, startD, ob, om, g_b, b_add, b_sub, u_abs, u_int, u_intb, u_max, u_min, c_lt, c_le, c_gt, c_ge, c_eq, c_ne, eqD_int, eqD_bl, ix_0, ix_1, ix_2, fr_0, fr_1, isN_non, isN_fr, isN_e, isN_str, isN_int, isN_tup, lD_none, lD_some, oD_none, oD_some, isAbs, partR, tgS, tgSs, wipeD, List.map_cons, List.map_nil, List.length_cons, List.length_nil, List.cons_append, List.nil_append, List.append_nil, List.getElem?_cons_zero, List.getElem?_cons_succ, List.set_cons_zero, List.set_cons_succ, List.replicate_succ, List.replicate_zero, Nat.zero_add, Nat.add_sub_cancel, Nat.reduceAdd, Nat.reduceSub, Bool.not_true, Bool.not_false, Bool.false_eq_true, if_false, pv_i0, pv_i1, eqD_fr, decide_eq_false c2]
      have z1 := zx.sub zp.2
      have z2 := zq.2.sub zp.2
      have m1 := r_minus (show 3 ≤ k by omega) zx zp.2 (by omega) h3
      have m2 := r_minus (show 3 ≤ k by omega) zq.2 zp.2 (by omega) h3
      have qq := r_quotient (show 3 ≤ k by omega) z1 z2 (by omega) (show q.2 - p.2 ≠ 0 by intro z; apply c2; grind) h3
      have z3 := z1.div z2
      obtain ⟨g, hg⟩ : ∃ g, (x - p.2) / (q.2 - p.2) = g := ⟨_, rfl⟩
      rw [hg] at qq z3 val
      have s7 : exe (GmD k) (.asg (.nm 4) (.call i_quotient [(.call i_minus [(.var 1), (.idx (.var 5) (.int 1))]), (.call i_minus [(.idx (.var 6) (.int 1)), (.idx (.var 5) (.int 1))])])) [some (.tup (P.map pvD)), some (frR x), some (.ref h1.length), some (.int (i : Int)), none, some (pvD p), some (pvD q)] h3 =
          some (.nx, [some (.tup (P.map pvD)), some (frR x), some (.ref h1.length), some (.int (i : Int)), some (frR g), some (pvD p), some (pvD q)], h3) := by
        simp only [fn_G, con_G, pat_G, ev, evs, evAnd, evOr, evTests, asgT, asgTs, evIt, exe, exes, outD, startD, ob, om, g_b, b_add, b_sub, u_abs, u_int, u_intb, u_max, u_min, c_lt, c_le, c_gt, c_ge, c_eq, c_ne, eqD_int, eqD_bl, ix_0, ix_1, ix_2, fr_0, fr_1, isN_non, isN_fr, isN_e, isN_str, isN_int, isN_tup, lD_none, lD_some, oD_none, oD_some, isAbs, partR, tgS, tgSs, wipeD, List.map_cons, List.map_nil, List.length_cons, List.length_nil, List.cons_append, List.nil_append, List.append_nil, List.getElem?_cons_zero, List.getElem?_cons_succ, List.set_cons_zero, List.set_cons_succ, List.replicate_succ, List.replicate_zero, Nat.zero_add, Nat.add_sub_cancel, Nat.reduceAdd, Nat.reduceSub, Bool.not_true, Bool.not_false, Bool.false_eq_true, if_false, pv_i1, m1, m2, qq]
      have m3 := r_minus (show 3 ≤ k by omega) zq.1 zp.1 (by omega) h3
      have z4 := zq.1.sub zp.1
      have pr := r_product (show 3 ≤ k by omega) z4 z3 (by omega) h3
      have pl := r_plus (show 3 ≤ k by omega) zp.1 (z4.mul z3) (by omega) h3
      have s8 : exe (GmD k) (.ret (.call i_plus [(.idx (.var 5) (.int 0)), (.call i_product [(.call i_minus [(.idx (.var 6) (.int 0)), (.idx (.var 5) (.int 0))]), (.var 4)])])) [some (.tup (P.map pvD)), some (frR x), some (.ref h1.length), some (.int (i : Int)), some (frR g), some (pvD p), some (pvD q)] h3 =
          some (.rt (frR (linV P x)), [some (.tup (P.map pvD)), some (frR x), some (.ref h1.length), some (.int (i : Int)), some (frR g), some (pvD p), some (pvD q)], h3) := by
        rw [val]
        simp only [fn_G, con_G, pat_G, ev, evs, evAnd, evOr, evTests, asgT, asgTs, evIt, exe, exes, outD, startD, ob, om, g_b, b_add, b_sub, u_abs, u_int, u_intb, u_max, u_min, c_lt, c_le, c_gt, c_ge, c_eq, c_ne, eqD_int, eqD_bl, ix_0, ix_1, ix_2, fr_0, fr_1, isN_non, isN_fr, isN_e, isN_str, isN_int, isN_tup, lD_none, lD_some, oD_none, oD_some, isAbs, partR, tgS, tgSs, wipeD, List.map_cons, List.map_nil, List.length_cons, List.length_nil, List.cons_append, List.nil_append, List.append_nil, List.getElem?_cons_zero, List.getElem?_cons_succ, List.set_cons_zero, List.set_cons_succ, List.replicate_succ, List.replicate_zero, Nat.zero_add, Nat.add_sub_cancel, Nat.reduceAdd, Nat.reduceSub, Bool.not_true, Bool.not_false, Bool.false_eq_true, if_false, pv_i0, m3, pr, pl]
      exact ⟨h3, outD_rt ((exes_nx s1).trans ((exes_nx s2).trans ((exes_nx s3).trans ((exes_nx s4).trans ((exes_nx s5).trans ((exes_nx s6).trans ((exes_nx s7).trans (exes_rt s8)))))))), ap3⟩

/-! ### cubics, on data -/
theorem three : ((3 : Int) : Rat) = 3 := rfl
theorem Sz_cub {a b x : Rat} {n : Nat} (ha : Sz n a) (hb : Sz n b) (hx : Sz n x) : Sz (11 * n + 30) (cub a b x) := by
  unfold cub
  split
  · exact (Sz3.mul (ha.mul hx)).mono (by omega)
  · split
    · exact (Sz1.add (Sz3.mul ((Sz1.sub hb).mul (hx.sub Sz1)))).mono (by omega)
    · have r := Sz1.sub hx
      exact (((Sz3.mul ((r.mul r).mul (hx.mul ha))).add (Sz3.mul ((r.mul hx).mul (hx.mul hb)))).add (hx.mul (hx.mul hx))).mono (by omega)
theorem r_cubic_value {K : Nat} (hK : 4 ≤ K) {a b x : Rat} {n : Nat} (ha : Sz n a) (hb : Sz n b) (hx : Sz n x) (l : n ≤ 780) (h : MH) : runD K i_cubic_value [frR a, frR b, frR x] h = some (frR (cub a b x), h) := by
  obtain ⟨k, rfl⟩ : ∃ k, K = k + 1 := ⟨K - 1, by omega⟩
  have kk : 3 ≤ k := by omega
  rw [run_cubic_value _ _ _ rfl]
  have l1 := r_less (show 2 ≤ k by omega) hx Sz0 (by omega) h
  have l2 := r_less (show 2 ≤ k by omega) Sz1 hx (by omega) h
  have f3 := r_as_fraction (show 1 ≤ k by omega) 3 h
  rw [three] at f3
  by_cases h1 : x < 0
  · have e : cub a b x = 3 * (a * x) := if_pos h1
    rw [e]
    simp only [b_cubic_value, fn_G, con_G, pat_G, ev, evs, evAnd, evOr, evTests, asgT, asgTs, evIt, exe, exes, outD, startD, ob, om, g_b, b_add, b_sub, u_abs, u_int, u_intb, u_max, u_min, c_lt, c_le, c_gt, c_ge, c_eq, c_ne, eqD_int, eqD_bl, ix_0, ix_1, ix_2, fr_0, fr_1, isN_non, isN_fr, isN_e, isN_str, isN_int, isN_tup, lD_none, lD_some, oD_none, oD_some, isAbs, partR, tgS, tgSs, wipeD, List.map_cons, List.map_nil, List.length_cons, List.length_nil, List.cons_append, List.nil_append, List.append_nil, List.getElem?_cons_zero, List.getElem?_cons_succ, List.set_cons_zero, List.set_cons_succ, List.replicate_succ, List.replicate_zero, Nat.zero_add, Nat.add_sub_cancel, Nat.reduceAdd, Nat.reduceSub, Bool.not_true, Bool.not_false, Bool.false_eq_true, if_false, con0, con1, l1, h1, decide_true, f3, r_product kk ha hx (by omega) h, r_product kk Sz3 (ha.mul hx) (by omega) h]
  · by_cases h2 : 1 < x
    · have e : cub a b x = 1 + 3 * ((1 - b) * (x - 1)) := by unfold cub; rw [if_neg h1, if_pos h2]
      rw [e]
      have sb := Sz1.sub hb
      have sx := hx.sub Sz1
      simp only [b_cubic_value, fn_G, con_G, pat_G, ev, evs, evAnd, evOr, evTests, asgT, asgTs, evIt, exe, exes, outD, startD, ob, om, g_b, b_add, b_sub, u_abs, u_int, u_intb, u_max, u_min, c_lt, c_le, c_gt, c_ge, c_eq, c_ne, eqD_int, eqD_bl, ix_0, ix_1, ix_2, fr_0, fr_1, isN_non, isN_fr, isN_e, isN_str, isN_int, isN_tup, lD_none, lD_some, oD_none, oD_some, isAbs, partR, tgS, tgSs, wipeD, List.map_cons, List.map_nil, List.length_cons, List.length_nil, List.cons_append, List.nil_append, List.append_nil, List.getElem?_cons_zero, List.getElem?_cons_succ, List.set_cons_zero, List.set_cons_succ, List.replicate_succ, List.replicate_zero, Nat.zero_add, Nat.add_sub_cancel, Nat.reduceAdd, Nat.reduceSub, Bool.not_true, Bool.not_false, Bool.false_eq_true, if_false, con0, con1, l1, l2, h1, h2, decide_true, decide_false, f3, r_minus kk Sz1 hb (by omega) h, r_minus kk hx Sz1 (by omega) h, r_product kk sb sx (by omega) h, r_product kk Sz3 (sb.mul sx) (by omega) h, r_plus kk Sz1 (Sz3.mul (sb.mul sx)) (by omega) h]
    · have e : cub a b x = 3 * ((1 - x) * (1 - x) * (x * a)) + 3 * ((1 - x) * x * (x * b)) + x * (x * x) := by unfold cub; rw [if_neg h1, if_neg h2]
      rw [e]
      have sr := Sz1.sub hx
      have s1 := sr.mul sr
      have s2 := hx.mul ha
      have s3 := Sz3.mul (s1.mul s2)
      have t1 := sr.mul hx
      have t2 := hx.mul hb
      have t3 := Sz3.mul (t1.mul t2)
      have u := hx.mul (hx.mul hx)
      simp only [b_cubic_value, fn_G, con_G, pat_G, ev, evs, evAnd, evOr, evTests, asgT, asgTs, evIt, exe, exes, outD, startD, ob, om, g_b, b_add, b_sub, u_abs, u_int, u_intb, u_max, u_min, c_lt, c_le, c_gt, c_ge, c_eq, c_ne, eqD_int, eqD_bl, ix_0, ix_1, ix_2, fr_0, fr_1, isN_non, isN_fr, isN_e, isN_str, isN_int, isN_tup, lD_none, lD_some, oD_none, oD_some, isAbs, partR, tgS, tgSs, wipeD, List.map_cons, List.map_nil, List.length_cons, List.length_nil, List.cons_append, List.nil_append, List.append_nil, List.getElem?_cons_zero, List.getElem?_cons_succ, List.set_cons_zero, List.set_cons_succ, List.replicate_succ, List.replicate_zero, Nat.zero_add, Nat.add_sub_cancel, Nat.reduceAdd, Nat.reduceSub, Bool.not_true, Bool.not_false, Bool.false_eq_true, if_false, con0, con1, l1, l2, h1, h2, decide_true, decide_false, f3, r_minus kk Sz1 hx (by omega) h, r_product kk sr sr (by omega) h, r_product kk hx ha (by omega) h, r_product kk s1 s2 (by omega) h, r_product kk Sz3 (s1.mul s2) (by omega) h,
        r_product kk sr hx (by omega) h, r_product kk hx hb (by omega) h, r_product kk t1 t2 (by omega) h, r_product kk Sz3 (t1.mul t2) (by omega) h, r_product kk hx hx (by omega) h, r_product kk hx (hx.mul hx) (by omega) h, r_plus kk s3 t3 (by omega) h, r_plus kk (s3.add t3) u (by omega) h]
theorem r_floor_of {K : Nat} (hK : 1 ≤ K) {a : Rat} {n : Nat} (ha : Sz n a) (l : n ≤ 9000) (h : MH) : runD K i_floor_of [frR a] h = some (.int (flo a), h) := by
  obtain ⟨k, rfl⟩ : ∃ k, K = k + 1 := ⟨K - 1, by omega⟩
  rw [run_floor_of _ _ _ rfl]
  have d : binD .fdiv (.int a.num) (.int a.den) h = some (.int (flo a), h) := b_div h (by have := a.den_pos; omega) (Nat.lt_of_lt_of_le ha.2 (Nat.pow_le_pow_right (by decide) l))
  simp only [b_floor_of, fn_G, con_G, pat_G, ev, evs, evAnd, evOr, evTests, asgT, asgTs, evIt, exe, exes, outD, startD, ob, om, g_b, b_add, b_sub, u_abs, u_int, u_intb, u_max, u_min, c_lt, c_le, c_gt, c_ge, c_eq, c_ne, eqD_int, eqD_bl, ix_0, ix_1, ix_2, fr_0, fr_1, isN_non, isN_fr, isN_e, isN_str, isN_int, isN_tup, lD_none, lD_some, oD_none, oD_some, isAbs, partR, tgS, tgSs, wipeD, List.map_cons, List.map_nil, List.length_cons, List.length_nil, List.cons_append, List.nil_append, List.append_nil, List.getElem?_cons_zero, List.getElem?_cons_succ, List.set_cons_zero, List.set_cons_succ, List.replicate_succ, List.replicate_zero, Nat.zero_add, Nat.add_sub_cancel, Nat.reduceAdd, Nat.reduceSub, Bool.not_true, Bool.not_false, Bool.false_eq_true, if_false, d]
theorem conW : conD c_WHERES = .tup [.str "start", .str "end", .str "none", .str "both"] := rfl
theorem strs2 : D.tup [.str "start", .str "both"] = .tup [.str "start", .str "both"] := rfl
theorem max_if (i j : Int) : (if j > i then j else i) = max i j := by omega
theorem min_if (i j : Int) : (if j < i then j else i) = min i j := by omega
theorem r_steps_value {K : Nat} (hK : 4 ≤ K) {n : Int} {w : Wq} {x : Rat} {m : Nat} (e : Bool) (hn : 1 + b01 (wN w) ≤ n) (hx : Sz m x) (hs : n.natAbs < 2 ^ 59) (l : m ≤ 4000) (h : MH) : runD K i_steps_value [.int n, .str (wq w), frR x, .bl e] h = some (frR (stp n w x e), h) := by
  obtain ⟨k, rfl⟩ : ∃ k, K = k + 1 := ⟨K - 1, by omega⟩
  have kk : 3 ≤ k := by omega
  rw [run_steps_value _ _ _ rfl]
  have sn : Sz 60 (n : Rat) := Sz.int (by omega) (by decide)
  have jp := jmp_pos hn
  have jb : (jmp n w).natAbs ≤ n.natAbs + 1 := by unfold jmp b01; cases w <;> simp [wB, wN] <;> omega
  have l1 := r_less (show 2 ≤ k by omega) hx Sz0 (by omega) h
  have l2 := r_less (show 2 ≤ k by omega) Sz1 hx (by omega) h
  have pr := r_product kk hx sn (by omega) h
  have lim2 : (0 + 1 + 1 ≤ LIM) = True := by simp [LIM]
  have dn : ((x * (n : Rat)).den : Int) = 1 ↔ (x * (n : Rat)).den = 1 := by omega
  have hq : decide (((x * (n : Rat)).den : Int) = 1) = decide ((x * (n : Rat)).den = 1) := decide_eq_decide.mpr dn
  have rt : ∀ f : Int, runD k i_ratio [.int f, .int (jmp n w)] h = some (frR (Rat.divInt f (jmp n w)), h) := fun f => r_ratio (show 2 ≤ k by omega) f (jmp n w) h (by omega) (s60 (by omega))
  have key : ∀ g : Int, g = st2 n w (x * n) e → ∀ g3 : Int, g3 = st3 n w x e → ∀ g4 : Int, g4 = st4 n w x e → Rat.divInt g4 (jmp n w) = stp n w x e := by rintro _ rfl _ rfl _ rfl; rfl
  have j1 : n + (if wB w = true then 1 else 0) - (if wN w = true then 1 else 0) = jmp n w := rfl
  unfold stp st4 st3 st2 b01
  cases e with
  | false =>
    by_cases h1 : x < 0 <;> by_cases h2 : 1 < x <;>
      simp only [b_steps_value, fn_G, con_G, pat_G, ev, evs, evAnd, evOr, evTests, asgT, asgTs, evIt, exe, exes, outD, startD, ob, om, g_b, b_add, b_sub, u_abs, u_int, u_intb, u_max, u_min, c_lt, c_le, c_gt, c_ge, c_eq, c_ne, eqD_int, eqD_bl, ix_0, ix_1, ix_2, fr_0, fr_1, isN_non, isN_fr, isN_e, isN_str, isN_int, isN_tup, lD_none, lD_some, oD_none, oD_some, isAbs, partR, tgS, tgSs, wipeD, List.map_cons, List.map_nil, List.length_cons, List.length_nil, List.cons_append, List.nil_append, List.append_nil, List.getElem?_cons_zero, List.getElem?_cons_succ, List.set_cons_zero, List.set_cons_succ, List.replicate_succ, List.replicate_zero, Nat.zero_add, Nat.add_sub_cancel, Nat.reduceAdd, Nat.reduceSub, Bool.not_true, Bool.not_false, Bool.false_eq_true, if_false, con0, con1, pr, r_as_fraction (show 1 ≤ k by omega), r_floor_of (show 1 ≤ k by omega) (hx.mul sn) (by omega) h, lim2, if_true, in_SB, l1, l2, h1, h2, decide_true, decide_false, eq_bo, eq_no, j1, rt, max_if, min_if, Bool.false_and, if_false, Int.sub_zero, Int.max_comm 0, Int.min_comm (jmp n w), reduceCtorEq]
  | true =>
    have two : ∀ b : Bool, decide ((x * (n : Rat)).den = 1) = b → decide (((x * (n : Rat)).den : Int) = 1) = b := fun b z => hq.trans z
    cases hd : decide ((x * (n : Rat)).den = 1) <;> by_cases h1 : x < 0 <;> by_cases h2 : 1 < x <;>
      simp only [b_steps_value, fn_G, con_G, pat_G, ev, evs, evAnd, evOr, evTests, asgT, asgTs, evIt, exe, exes, outD, startD, ob, om, g_b, b_add, b_sub, u_abs, u_int, u_intb, u_max, u_min, c_lt, c_le, c_gt, c_ge, c_eq, c_ne, eqD_int, eqD_bl, ix_0, ix_1, ix_2, fr_0, fr_1, isN_non, isN_fr, isN_e, isN_str, isN_int, isN_tup, lD_none, lD_some, oD_none, oD_some, isAbs, partR, tgS, tgSs, wipeD, List.map_cons, List.map_nil, List.length_cons, List.length_nil, List.cons_append, List.nil_append, List.append_nil, List.getElem?_cons_zero, List.getElem?_cons_succ, List.set_cons_zero, List.set_cons_succ, List.replicate_succ, List.replicate_zero, Nat.zero_add, Nat.add_sub_cancel, Nat.reduceAdd, Nat.reduceSub, Bool.not_true, Bool.not_false, Bool.false_eq_true, if_false, con0, con1, pr, r_as_fraction (show 1 ≤ k by omega), r_floor_of (show 1 ≤ k by omega) (hx.mul sn) (by omega) h, lim2, if_true, in_SB, l1, l2, h1, h2, two _ hd, hd, decide_true, decide_false, eq_bo, eq_no, j1, rt, max_if, min_if, Bool.true_and, if_false, Int.sub_zero, Int.max_comm 0, Int.min_comm (jmp n w), reduceCtorEq]

/-! ### any curve -/
theorem r_led {K : Nat} (hK : 8 ≤ K) {m mx : Nat} (m0 : 0 < m) (l : m ≤ 200) (c : Cv) (o : CvOk m c) (lc : ∀ ps, c = .lin ps → ps.length < 1000) {x : Rat} (zx : Sz mx x) (lx : mx ≤ 780) (m1 : m ≤ mx) (e : Bool) (h : MH) :
    ∃ h', runD K i_led [cvD c, frR x, .bl e] h = some (frR (cvV c x e), h') ∧ Ap h h' := by
  obtain ⟨k, rfl⟩ : ∃ k, K = k + 1 := ⟨K - 1, by omega⟩
  rw [run_led _ _ _ rfl]
  have sE : ∀ (a b : Str) (r : Bool), PySem.PyData.strOk a = true → PySem.PyData.strOk b = true → (a == b) = r → ∀ h, eqD h (.str a) (.str b) = some r := s_eq
  cases c with
  | lin ps =>
    obtain ⟨nn, ln, op⟩ := o
    obtain ⟨h', e1, a1⟩ := r_linear_value (show 7 ≤ k by omega) m0 nn (lc ps rfl) op zx (by omega) h
    have i0 : idxD h (cvD (.lin ps)) (.int 0) = some (.str "linear") := ix_0 ..
    have i1 : idxD h (cvD (.lin ps)) (.int 1) = some (.tup (ps.map ptD)) := ix_1 ..
    have c1 := sE "linear" "linear" true (by decide +kernel) (by decide +kernel) (by decide +kernel)
    refine ⟨h', ?_, a1⟩
    simp only [b_led, fn_G, con_G, pat_G, ev, evs, evAnd, evOr, evTests, asgT, asgTs, evIt, exe, exes, outD, startD, ob, om, g_b, b_add, b_sub, u_abs, u_int, u_intb, u_max, u_min, c_lt, c_le, c_gt, c_ge, c_eq, c_ne, eqD_int, eqD_bl, ix_0, ix_1, ix_2, fr_0, fr_1, isN_non, isN_fr, isN_e, isN_str, isN_int, isN_tup, lD_none, lD_some, oD_none, oD_some, isAbs, partR, tgS, tgSs, wipeD, List.map_cons, List.map_nil, List.length_cons, List.length_nil, List.cons_append, List.nil_append, List.append_nil, List.getElem?_cons_zero, List.getElem?_cons_succ, List.set_cons_zero, List.set_cons_succ, List.replicate_succ, List.replicate_zero, Nat.zero_add, Nat.add_sub_cancel, Nat.reduceAdd, Nat.reduceSub, Bool.not_true, Bool.not_false, Bool.false_eq_true, if_false, i0, i1, c1, e1]
    rfl
  | cub a b =>
    have i0 : idxD h (cvD (.cub a b)) (.int 0) = some (.str "cubic") := ix_0 ..
    have i1 : idxD h (cvD (.cub a b)) (.int 1) = some (frR a) := ix_1 ..
    have i2 : idxD h (cvD (.cub a b)) (.int 2) = some (frR b) := ix_2 ..
    have c1 := sE "cubic" "linear" false (by decide +kernel) (by decide +kernel) (by decide +kernel)
    have c2 := sE "cubic" "cubic" true (by decide +kernel) (by decide +kernel) (by decide +kernel)
    have e1 := r_cubic_value (show 4 ≤ k by omega) (o.1.mono m1) (o.2.mono m1) zx (by omega) h
    refine ⟨h, ?_, Ap.refl h⟩
    simp only [b_led, fn_G, con_G, pat_G, ev, evs, evAnd, evOr, evTests, asgT, asgTs, evIt, exe, exes, outD, startD, ob, om, g_b, b_add, b_sub, u_abs, u_int, u_intb, u_max, u_min, c_lt, c_le, c_gt, c_ge, c_eq, c_ne, eqD_int, eqD_bl, ix_0, ix_1, ix_2, fr_0, fr_1, isN_non, isN_fr, isN_e, isN_str, isN_int, isN_tup, lD_none, lD_some, oD_none, oD_some, isAbs, partR, tgS, tgSs, wipeD, List.map_cons, List.map_nil, List.length_cons, List.length_nil, List.cons_append, List.nil_append, List.append_nil, List.getElem?_cons_zero, List.getElem?_cons_succ, List.set_cons_zero, List.set_cons_succ, List.replicate_succ, List.replicate_zero, Nat.zero_add, Nat.add_sub_cancel, Nat.reduceAdd, Nat.reduceSub, Bool.not_true, Bool.not_false, Bool.false_eq_true, if_false, i0, i1, i2, c1, c2, e1]
    rfl
  | stp n w =>
    have i0 : idxD h (cvD (.stp n w)) (.int 0) = some (.str "steps") := ix_0 ..
    have i1 : idxD h (cvD (.stp n w)) (.int 1) = some (.int n) := ix_1 ..
    have i2 : idxD h (cvD (.stp n w)) (.int 2) = some (.str (wq w)) := ix_2 ..
    have c1 := sE "steps" "linear" false (by decide +kernel) (by decide +kernel) (by decide +kernel)
    have c2 := sE "steps" "cubic" false (by decide +kernel) (by decide +kernel) (by decide +kernel)
    have e1 := r_steps_value (show 4 ≤ k by omega) e o.1 zx o.2 (by omega) h
    refine ⟨h, ?_, Ap.refl h⟩
    simp only [b_led, fn_G, con_G, pat_G, ev, evs, evAnd, evOr, evTests, asgT, asgTs, evIt, exe, exes, outD, startD, ob, om, g_b, b_add, b_sub, u_abs, u_int, u_intb, u_max, u_min, c_lt, c_le, c_gt, c_ge, c_eq, c_ne, eqD_int, eqD_bl, ix_0, ix_1, ix_2, fr_0, fr_1, isN_non, isN_fr, isN_e, isN_str, isN_int, isN_tup, lD_none, lD_some, oD_none, oD_some, isAbs, partR, tgS, tgSs, wipeD, List.map_cons, List.map_nil, List.length_cons, List.length_nil, List.cons_append, List.nil_append, List.append_nil, List.getElem?_cons_zero, List.getElem?_cons_succ, List.set_cons_zero, List.set_cons_succ, List.replicate_succ, List.replicate_zero, Nat.zero_add, Nat.add_sub_cancel, Nat.reduceAdd, Nat.reduceSub, Bool.not_true, Bool.not_false, Bool.false_eq_true, if_false, i0, i1, i2, c1, c2, e1]
    rfl
/-! ### what a timing tells -/
theorem r_part_of {K : Nat} (hK : 1 ≤ K) (a : Rat) (h : MH) : runD K i_part_of [frR a] h = some (frR (frc a), h) := by
  obtain ⟨k, rfl⟩ : ∃ k, K = k + 1 := ⟨K - 1, by omega⟩
  rw [run_part_of _ _ _ rfl]
  have d : binD .mod (.int a.num) (.int a.den) h = some (.int (a.num % a.den), h) := b_mod h (by have := a.den_pos; omega)
  have lim2 : (0 + 1 + 1 ≤ LIM) = True := by simp [LIM]
  rw [← frR_frc]
  by_cases c : a.num % (a.den : Int) = 0
  · rw [if_pos c]
    simp only [b_part_of, fn_G, con_G, pat_G, ev, evs, evAnd, evOr, evTests, asgT, asgTs, evIt, exe, exes, outD, startD, ob, om, g_b, b_add, b_sub, u_abs, u_int, u_intb, u_max, u_min, c_lt, c_le, c_gt, c_ge, c_eq, c_ne, eqD_int, eqD_bl, ix_0, ix_1, ix_2, fr_0, fr_1, isN_non, isN_fr, isN_e, isN_str, isN_int, isN_tup, lD_none, lD_some, oD_none, oD_some, isAbs, partR, tgS, tgSs, wipeD, List.map_cons, List.map_nil, List.length_cons, List.length_nil, List.cons_append, List.nil_append, List.append_nil, List.getElem?_cons_zero, List.getElem?_cons_succ, List.set_cons_zero, List.set_cons_succ, List.replicate_succ, List.replicate_zero, Nat.zero_add, Nat.add_sub_cancel, Nat.reduceAdd, Nat.reduceSub, Bool.not_true, Bool.not_false, Bool.false_eq_true, if_false, d, con0, decide_eq_true c]
  · rw [if_neg c]
    simp only [b_part_of, fn_G, con_G, pat_G, ev, evs, evAnd, evOr, evTests, asgT, asgTs, evIt, exe, exes, outD, startD, ob, om, g_b, b_add, b_sub, u_abs, u_int, u_intb, u_max, u_min, c_lt, c_le, c_gt, c_ge, c_eq, c_ne, eqD_int, eqD_bl, ix_0, ix_1, ix_2, fr_0, fr_1, isN_non, isN_fr, isN_e, isN_str, isN_int, isN_tup, lD_none, lD_some, oD_none, oD_some, isAbs, partR, tgS, tgSs, wipeD, List.map_cons, List.map_nil, List.length_cons, List.length_nil, List.cons_append, List.nil_append, List.append_nil, List.getElem?_cons_zero, List.getElem?_cons_succ, List.set_cons_zero, List.set_cons_succ, List.replicate_succ, List.replicate_zero, Nat.zero_add, Nat.add_sub_cancel, Nat.reduceAdd, Nat.reduceSub, Bool.not_true, Bool.not_false, Bool.false_eq_true, if_false, d, con0, decide_eq_false c, lim2, if_true]
theorem trip_it (h : MH) (e : EQ × EQ × EQ) : itemsD h (tripD e) = some [eD e.1, eD e.2.1, eD e.2.2] := rfl
theorem eq_frE (h : MH) (a : Rat) (b : EQ) : eqD h (frR a) (eD b) = some (decide (EQ.fin a = b)) := eqD_e h (.fin a) b
theorem r_phase_of {K : Nat} (hK : 6 ≤ K) {d q m dt qt : Nat} {T : Tm} (o : TmZ d q m T) (m0 : 0 < m) (l1 : d ≤ 1000) (l2 : q ≤ 1000) (l3 : m ≤ 1000) {t : Rat} (zt : Zs dt qt t) (l4 : dt ≤ 2000) (l5 : qt ≤ 2000) (s : Bool) (h : MH) :
    runD K i_phase_of [tmD T, frR t, .int (sgn s)] h = some (.str (ph (phsT T t s)), h) := by
  obtain ⟨k, rfl⟩ : ∃ k, K = k + 1 := ⟨K - 1, by omega⟩
  rw [run_phase_of _ _ _ rfl]
  have ae := r_all_edges (show 5 ≤ k by omega) (o.ok l1 l2 l3) (by decide) (Nat.le_refl _) h
  obtain ⟨z1, z2, z3⟩ := o.edg m0
  have zt' : SzE 2000 (.fin t) := Zs.sz zt l4 l5
  have ls1 := r_lessE (show 2 ≤ k by omega) zt' (z1.sz (n := 7000) (by omega) (by omega)) (by omega) h
  have ls2 := r_lessE (show 2 ≤ k by omega) (z2.sz (n := 7000) (by omega) (by omega)) zt' (by omega) h
  have ls1 : runD k i_less [frR t, eD (edgT T).1] h = some (.bl (elt (.fin t) (edgT T).1), h) := ls1
  have ls2 : runD k i_less [eD (edgT T).2.1, frR t] h = some (.bl (elt (edgT T).2.1 (.fin t)), h) := ls2
  unfold phsT
  generalize edgT T = E at *
  have key : ∀ b1 b2 b3 b4 : Bool, elt (.fin t) E.1 = b1 → decide (EQ.fin t = E.1) = b2 → elt E.2.1 (.fin t) = b3 → decide (EQ.fin t = E.2.1) = b4 →
      outD (exes (GmD k) b_phase_of (startD 6 [tmD T, frR t, .int (sgn s)]) h) = some (.str (ph (if (b1 || (b2 && !s)) = true then .before else if (b3 || (b4 && s)) = true then .after else .active)), h) := by
    intro b1 b2 b3 b4 e1 e2 e3 e4
    rw [e1] at ls1
    rw [e3] at ls2
    have q1 := eq_frE h t E.1
    have q2 := eq_frE h t E.2.1
    rw [e2] at q1
    rw [e4] at q2
    have hs1 : decide (sgn s = -1) = !s := by cases s <;> rfl
    have hs2 : decide (sgn s = 1) = s := by cases s <;> rfl
    cases b1 <;> cases b2 <;> cases b3 <;> cases b4 <;> cases s <;>
      simp only [b_phase_of, fn_G, con_G, pat_G, ev, evs, evAnd, evOr, evTests, asgT, asgTs, evIt, exe, exes, outD, startD, ob, om, g_b, b_add, b_sub, u_abs, u_int, u_intb, u_max, u_min, c_lt, c_le, c_gt, c_ge, c_eq, c_ne, eqD_int, eqD_bl, ix_0, ix_1, ix_2, fr_0, fr_1, isN_non, isN_fr, isN_e, isN_str, isN_int, isN_tup, lD_none, lD_some, oD_none, oD_some, isAbs, partR, tgS, tgSs, wipeD, List.map_cons, List.map_nil, List.length_cons, List.length_nil, List.cons_append, List.nil_append, List.append_nil, List.getElem?_cons_zero, List.getElem?_cons_succ, List.set_cons_zero, List.set_cons_succ, List.replicate_succ, List.replicate_zero, Nat.zero_add, Nat.add_sub_cancel, Nat.reduceAdd, Nat.reduceSub, Bool.not_true, Bool.not_false, Bool.false_eq_true, if_false, ae, trip_it, ls1, ls2, q1, q2, hs1, hs2] <;> rfl
  exact key _ _ _ _ rfl rfl rfl rfl
theorem r_active_time {K : Nat} (hK : 5 ≤ K) {d q m dt qt : Nat} {T : Tm} (o : TmZ d q m T) (m0 : 0 < m) (l1 : d ≤ 1000) (l2 : q ≤ 1000) (l3 : m ≤ 1000) {t : Rat} (zt : Zs dt qt t) (l4 : dt ≤ 2000) (l5 : qt ≤ 2000) (p : Ph) (p0 : p ≠ .idle) (f : Fw) (h : MH) :
    runD K i_active_time [tmD T, frR t, .str (ph p), .str (fw f)] h = some (oD (actv T t p f), h) := by
  obtain ⟨k, rfl⟩ : ∃ k, K = k + 1 := ⟨K - 1, by omega⟩
  rw [run_active_time _ _ _ rfl]
  have lim2 : (0 + 1 + 1 ≤ LIM) = True := by simp [LIM]
  have zt' : Sz 2000 t := zt.sz l4 l5
  have zd : Sz 1000 T.delay := o.delay.sz l1 l2
  have mn := r_minus (show 3 ≤ k by omega) zt' zd (by omega) h
  have zm := zt'.sub zd
  have al := r_active_length (show 4 ≤ k by omega) (o.ok l1 l2 l3) (by decide) (by decide) h
  have za := (o.act m0).mono (show m + m ≤ 2000 by omega)
  have p1 := ph_eq p .active h
  have p2 := ph_eq p .before h
  have p3 := ph_eq p .after h
  have p1 : eqD h (.str (ph p)) (.str "active") = some (decide (p = .active)) := p1
  have p2 : eqD h (.str (ph p)) (.str "before") = some (decide (p = .before)) := p2
  have p3 : eqD h (.str (ph p)) (.str "after") = some (decide (p = .after)) := p3
  generalize hx : t - T.delay = x at mn zm
  have g1 : runD k i_greater [frR x, frR 0] h = some (frR (mx0 x), h) := by
    have := r_greater (show 3 ≤ k by omega) (a := .fin x) (b := .fin 0) (n := 3001) (m := 1) zm Sz0 (by omega) h
    rw [mx0_e] at this
    exact this
  have g2 : runD k i_lesser [frR x, eD (actOf T)] h = some (frR (mnE x (actOf T)), h) := by
    have := r_lesser (show 3 ≤ k by omega) (a := .fin x) (b := actOf T) (n := 3001) (m := 2000) zm za (by omega) h
    rw [mnE_e] at this
    exact this
  have zmn : Sz 3001 (mnE x (actOf T)) := by
    have := SzE.min (a := .fin x) (n := 3001) zm (za.mono (by omega))
    rw [mnE_e] at this
    exact this
  have g3 : runD k i_greater [frR (mnE x (actOf T)), frR 0] h = some (frR (mx0 (mnE x (actOf T))), h) := by
    have := r_greater (show 3 ≤ k by omega) (a := .fin (mnE x (actOf T))) (b := .fin 0) (n := 3001) (m := 1) zmn Sz0 (by omega) h
    rw [mx0_e] at this
    exact this
  unfold actv
  rw [hx]
  cases p with
  | idle => exact absurd rfl p0
  | active => simp only [b_active_time, fn_G, con_G, pat_G, ev, evs, evAnd, evOr, evTests, asgT, asgTs, evIt, exe, exes, outD, startD, ob, om, g_b, b_add, b_sub, u_abs, u_int, u_intb, u_max, u_min, c_lt, c_le, c_gt, c_ge, c_eq, c_ne, eqD_int, eqD_bl, ix_0, ix_1, ix_2, fr_0, fr_1, isN_non, isN_fr, isN_e, isN_str, isN_int, isN_tup, lD_none, lD_some, oD_none, oD_some, isAbs, partR, tgS, tgSs, wipeD, List.map_cons, List.map_nil, List.length_cons, List.length_nil, List.cons_append, List.nil_append, List.append_nil, List.getElem?_cons_zero, List.getElem?_cons_succ, List.set_cons_zero, List.set_cons_succ, List.replicate_succ, List.replicate_zero, Nat.zero_add, Nat.add_sub_cancel, Nat.reduceAdd, Nat.reduceSub, Bool.not_true, Bool.not_false, Bool.false_eq_true, if_false, p1, reduceCtorEq, decide_true, tm_0, mn]
  | before =>
    cases hb : fBack f with
    | true => simp only [b_active_time, fn_G, con_G, pat_G, ev, evs, evAnd, evOr, evTests, asgT, asgTs, evIt, exe, exes, outD, startD, ob, om, g_b, b_add, b_sub, u_abs, u_int, u_intb, u_max, u_min, c_lt, c_le, c_gt, c_ge, c_eq, c_ne, eqD_int, eqD_bl, ix_0, ix_1, ix_2, fr_0, fr_1, isN_non, isN_fr, isN_e, isN_str, isN_int, isN_tup, lD_none, lD_some, oD_none, oD_some, isAbs, partR, tgS, tgSs, wipeD, List.map_cons, List.map_nil, List.length_cons, List.length_nil, List.cons_append, List.nil_append, List.append_nil, List.getElem?_cons_zero, List.getElem?_cons_succ, List.set_cons_zero, List.set_cons_succ, List.replicate_succ, List.replicate_zero, Nat.zero_add, Nat.add_sub_cancel, Nat.reduceAdd, Nat.reduceSub, Bool.not_true, Bool.not_false, Bool.false_eq_true, if_false, p1, p2, reduceCtorEq, decide_true, decide_false, lim2, if_true, fw_back, hb, tm_0, mn, con0, g1]
    | false => simp only [b_active_time, fn_G, con_G, pat_G, ev, evs, evAnd, evOr, evTests, asgT, asgTs, evIt, exe, exes, outD, startD, ob, om, g_b, b_add, b_sub, u_abs, u_int, u_intb, u_max, u_min, c_lt, c_le, c_gt, c_ge, c_eq, c_ne, eqD_int, eqD_bl, ix_0, ix_1, ix_2, fr_0, fr_1, isN_non, isN_fr, isN_e, isN_str, isN_int, isN_tup, lD_none, lD_some, oD_none, oD_some, isAbs, partR, tgS, tgSs, wipeD, List.map_cons, List.map_nil, List.length_cons, List.length_nil, List.cons_append, List.nil_append, List.append_nil, List.getElem?_cons_zero, List.getElem?_cons_succ, List.set_cons_zero, List.set_cons_succ, List.replicate_succ, List.replicate_zero, Nat.zero_add, Nat.add_sub_cancel, Nat.reduceAdd, Nat.reduceSub, Bool.not_true, Bool.not_false, Bool.false_eq_true, if_false, p1, p2, p3, reduceCtorEq, decide_true, decide_false, lim2, if_true, fw_back, hb]
  | after =>
    cases hb : fForw f with
    | true => simp only [b_active_time, fn_G, con_G, pat_G, ev, evs, evAnd, evOr, evTests, asgT, asgTs, evIt, exe, exes, outD, startD, ob, om, g_b, b_add, b_sub, u_abs, u_int, u_intb, u_max, u_min, c_lt, c_le, c_gt, c_ge, c_eq, c_ne, eqD_int, eqD_bl, ix_0, ix_1, ix_2, fr_0, fr_1, isN_non, isN_fr, isN_e, isN_str, isN_int, isN_tup, lD_none, lD_some, oD_none, oD_some, isAbs, partR, tgS, tgSs, wipeD, List.map_cons, List.map_nil, List.length_cons, List.length_nil, List.cons_append, List.nil_append, List.append_nil, List.getElem?_cons_zero, List.getElem?_cons_succ, List.set_cons_zero, List.set_cons_succ, List.replicate_succ, List.replicate_zero, Nat.zero_add, Nat.add_sub_cancel, Nat.reduceAdd, Nat.reduceSub, Bool.not_true, Bool.not_false, Bool.false_eq_true, if_false, p1, p2, p3, reduceCtorEq, decide_true, decide_false, lim2, if_true, fw_forw, hb, tm_0, mn, al, g2, con0, g3]
    | false => simp only [b_active_time, fn_G, con_G, pat_G, ev, evs, evAnd, evOr, evTests, asgT, asgTs, evIt, exe, exes, outD, startD, ob, om, g_b, b_add, b_sub, u_abs, u_int, u_intb, u_max, u_min, c_lt, c_le, c_gt, c_ge, c_eq, c_ne, eqD_int, eqD_bl, ix_0, ix_1, ix_2, fr_0, fr_1, isN_non, isN_fr, isN_e, isN_str, isN_int, isN_tup, lD_none, lD_some, oD_none, oD_some, isAbs, partR, tgS, tgSs, wipeD, List.map_cons, List.map_nil, List.length_cons, List.length_nil, List.cons_append, List.nil_append, List.append_nil, List.getElem?_cons_zero, List.getElem?_cons_succ, List.set_cons_zero, List.set_cons_succ, List.replicate_succ, List.replicate_zero, Nat.zero_add, Nat.add_sub_cancel, Nat.reduceAdd, Nat.reduceSub, Bool.not_true, Bool.not_false, Bool.false_eq_true, if_false, p1, p2, p3, reduceCtorEq, decide_true, decide_false, lim2, if_true, fw_forw, hb]

/-! ### what a timing tells: shares, iterations, directions -/
theorem conE0 : conD c_ZERO = eD (.fin 0) := rfl
theorem eDf (r : Rat) : eD (.fin r) = frR r := rfl
theorem b01_if (b : Bool) : (if b = true then (1 : Int) else 0) = b01 b := rfl
theorem r_overall_of {K : Nat} (hK : 4 ≤ K) {d q m pa qa : Nat} {T : Tm} (o : TmZ d q m T) (m0 : 0 < m) (l3 : m ≤ 1000) {a : Rat} (za : Zs pa qa a) (l4 : pa ≤ 6000) (l5 : qa ≤ 6000) (p : Ph) (h : MH) :
    runD K i_overall_of [tmD T, .str (ph p), frR a] h = some (eD (ovr T p a), h) := by
  obtain ⟨k, rfl⟩ : ∃ k, K = k + 1 := ⟨K - 1, by omega⟩
  rw [run_overall_of _ _ _ rfl]
  have zl := o.lenOf m0
  have lo := r_length_of (show 1 ≤ k by omega) T h
  have p2 : eqD h (.str (ph p)) (.str "before") = some (decide (p = .before)) := ph_eq p .before h
  unfold ovr
  cases hl : lenOf T with
  | inf =>
    rw [hl] at lo
    have e1 := eqD_e h .inf (.fin 0)
    have e2 := r_endless (show 1 ≤ k by omega) .inf h
    rw [decide_eq_false (by intro z; cases z)] at e1
    rw [decide_eq_true rfl] at e2
    simp only [b_overall_of, fn_G, con_G, pat_G, ev, evs, evAnd, evOr, evTests, asgT, asgTs, evIt, exe, exes, outD, startD, ob, om, g_b, b_add, b_sub, u_abs, u_int, u_intb, u_max, u_min, c_lt, c_le, c_gt, c_ge, c_eq, c_ne, eqD_int, eqD_bl, ix_0, ix_1, ix_2, fr_0, fr_1, isN_non, isN_fr, isN_e, isN_str, isN_int, isN_tup, lD_none, lD_some, oD_none, oD_some, isAbs, partR, tgS, tgSs, wipeD, List.map_cons, List.map_nil, List.length_cons, List.length_nil, List.cons_append, List.nil_append, List.append_nil, List.getElem?_cons_zero, List.getElem?_cons_succ, List.set_cons_zero, List.set_cons_succ, List.replicate_succ, List.replicate_zero, Nat.zero_add, Nat.add_sub_cancel, Nat.reduceAdd, Nat.reduceSub, Bool.not_true, Bool.not_false, Bool.false_eq_true, if_false, lo, conE0, e1, e2, tm_3]
    rfl
  | fin l =>
    rw [hl] at lo zl
    dsimp only
    have e1 : eqD h (frR l) (frR 0) = _ := eqD_fr h l 0
    have lo : runD k i_length_of [tmD T] h = some (frR l, h) := lo
    have e2 := z_endless (show 1 ≤ k by omega) l h
    by_cases c : l = 0
    · rw [if_pos c]
      by_cases c2 : p = .before
      · rw [if_pos c2]
        simp only [b_overall_of, fn_G, con_G, pat_G, ev, evs, evAnd, evOr, evTests, asgT, asgTs, evIt, exe, exes, outD, startD, ob, om, g_b, b_add, b_sub, u_abs, u_int, u_intb, u_max, u_min, c_lt, c_le, c_gt, c_ge, c_eq, c_ne, eqD_int, eqD_bl, ix_0, ix_1, ix_2, fr_0, fr_1, isN_non, isN_fr, isN_e, isN_str, isN_int, isN_tup, lD_none, lD_some, oD_none, oD_some, isAbs, partR, tgS, tgSs, wipeD, List.map_cons, List.map_nil, List.length_cons, List.length_nil, List.cons_append, List.nil_append, List.append_nil, List.getElem?_cons_zero, List.getElem?_cons_succ, List.set_cons_zero, List.set_cons_succ, List.replicate_succ, List.replicate_zero, Nat.zero_add, Nat.add_sub_cancel, Nat.reduceAdd, Nat.reduceSub, Bool.not_true, Bool.not_false, Bool.false_eq_true, if_false, lo, con0, e1, decide_eq_true c, p2, decide_eq_true c2, tm_3]
        rfl
      · rw [if_neg c2]
        have pl := r_plusE (show 3 ≤ k by omega) (a := .fin T.first) (b := T.many) (n := m) (m := m) o.first o.many (by omega) h
        have pl : runD k i_plus [frR T.first, eD T.many] h = some (eD (eadd (.fin T.first) T.many), h) := pl
        simp only [b_overall_of, fn_G, con_G, pat_G, ev, evs, evAnd, evOr, evTests, asgT, asgTs, evIt, exe, exes, outD, startD, ob, om, g_b, b_add, b_sub, u_abs, u_int, u_intb, u_max, u_min, c_lt, c_le, c_gt, c_ge, c_eq, c_ne, eqD_int, eqD_bl, ix_0, ix_1, ix_2, fr_0, fr_1, isN_non, isN_fr, isN_e, isN_str, isN_int, isN_tup, lD_none, lD_some, oD_none, oD_some, isAbs, partR, tgS, tgSs, wipeD, List.map_cons, List.map_nil, List.length_cons, List.length_nil, List.cons_append, List.nil_append, List.append_nil, List.getElem?_cons_zero, List.getElem?_cons_succ, List.set_cons_zero, List.set_cons_succ, List.replicate_succ, List.replicate_zero, Nat.zero_add, Nat.add_sub_cancel, Nat.reduceAdd, Nat.reduceSub, Bool.not_true, Bool.not_false, Bool.false_eq_true, if_false, lo, con0, e1, decide_eq_true c, p2, decide_eq_false c2, tm_3, tm_4, pl]
    · rw [if_neg c]
      have zl' : Sz m l := zl
      have zq := za.div zl'.zs c
      have qu := r_quotient (show 3 ≤ k by omega) (za.sz (n := 6000) l4 l5) zl' (by omega) c h
      have pl := r_plus (show 3 ≤ k by omega) o.first (zq.sz (n := 7000) (by omega) (by omega)) (by omega) h
      simp only [b_overall_of, fn_G, con_G, pat_G, ev, evs, evAnd, evOr, evTests, asgT, asgTs, evIt, exe, exes, outD, startD, ob, om, g_b, b_add, b_sub, u_abs, u_int, u_intb, u_max, u_min, c_lt, c_le, c_gt, c_ge, c_eq, c_ne, eqD_int, eqD_bl, ix_0, ix_1, ix_2, fr_0, fr_1, isN_non, isN_fr, isN_e, isN_str, isN_int, isN_tup, lD_none, lD_some, oD_none, oD_some, isAbs, partR, tgS, tgSs, wipeD, List.map_cons, List.map_nil, List.length_cons, List.length_nil, List.cons_append, List.nil_append, List.append_nil, List.getElem?_cons_zero, List.getElem?_cons_succ, List.set_cons_zero, List.set_cons_succ, List.replicate_succ, List.replicate_zero, Nat.zero_add, Nat.add_sub_cancel, Nat.reduceAdd, Nat.reduceSub, Bool.not_true, Bool.not_false, Bool.false_eq_true, if_false, lo, con0, e1, decide_eq_false c, e2, tm_3, qu, pl]
      rfl
theorem r_simple_of {K : Nat} (hK : 5 ≤ K) {d q m : Nat} {T : Tm} (o : TmZ d q m T) (m0 : 0 < m) (l1 : d ≤ 1000) (l2 : q ≤ 1000) (l3 : m ≤ 1000) (p : Ph) (a : Rat) (ov : EQ) (h : MH) :
    runD K i_simple_of [tmD T, .str (ph p), frR a, eD ov] h = some (frR (sml T p a ov), h) := by
  obtain ⟨k, rfl⟩ : ∃ k, K = k + 1 := ⟨K - 1, by omega⟩
  rw [run_simple_of _ _ _ rfl]
  have lim2 : (0 + 1 + 1 ≤ LIM) = True := by simp [LIM]
  have al := r_active_length (show 4 ≤ k by omega) (o.ok l1 l2 l3) (by decide) (by decide) h
  have e2 := r_endless (show 1 ≤ k by omega) ov h
  have e3 := eqD_fr h (prt T ov) 0
  have e4 := eq_frE h a (actOf T)
  have e5 := eqD_e h T.many (.fin 0)
  have s1 : exe (GmD k) (.asg (.nm 4) (.ife (.call i_is_endless [(.var 3)]) (.call i_part_of [(.idx (.var 0) (.int 3))]) (.call i_part_of [(.var 3)]))) (startD 5 [tmD T, .str (ph p), frR a, eD ov]) h = some (.nx, [some (tmD T), some (.str (ph p)), some (frR a), some (eD ov), some (frR (prt T ov))], h) := by
    cases ov with
    | inf =>
      rw [decide_eq_true rfl] at e2
      simp only [fn_G, con_G, pat_G, ev, evs, evAnd, evOr, evTests, asgT, asgTs, evIt, exe, exes, outD, startD, ob, om, g_b, b_add, b_sub, u_abs, u_int, u_intb, u_max, u_min, c_lt, c_le, c_gt, c_ge, c_eq, c_ne, eqD_int, eqD_bl, ix_0, ix_1, ix_2, fr_0, fr_1, isN_non, isN_fr, isN_e, isN_str, isN_int, isN_tup, lD_none, lD_some, oD_none, oD_some, isAbs, partR, tgS, tgSs, wipeD, List.map_cons, List.map_nil, List.length_cons, List.length_nil, List.cons_append, List.nil_append, List.append_nil, List.getElem?_cons_zero, List.getElem?_cons_succ, List.set_cons_zero, List.set_cons_succ, List.replicate_succ, List.replicate_zero, Nat.zero_add, Nat.add_sub_cancel, Nat.reduceAdd, Nat.reduceSub, Bool.not_true, Bool.not_false, Bool.false_eq_true, if_false, e2, tm_3, r_part_of (show 1 ≤ k by omega)]
      rfl
    | fin r =>
      have e2 : runD k i_is_endless [frR r] h = some (.bl false, h) := e2
      simp only [fn_G, con_G, pat_G, ev, evs, evAnd, evOr, evTests, asgT, asgTs, evIt, exe, exes, outD, startD, ob, om, g_b, b_add, b_sub, u_abs, u_int, u_intb, u_max, u_min, c_lt, c_le, c_gt, c_ge, c_eq, c_ne, eqD_int, eqD_bl, ix_0, ix_1, ix_2, fr_0, fr_1, isN_non, isN_fr, isN_e, isN_str, isN_int, isN_tup, lD_none, lD_some, oD_none, oD_some, isAbs, partR, tgS, tgSs, wipeD, List.map_cons, List.map_nil, List.length_cons, List.length_nil, List.cons_append, List.nil_append, List.append_nil, List.getElem?_cons_zero, List.getElem?_cons_succ, List.set_cons_zero, List.set_cons_succ, List.replicate_succ, List.replicate_zero, Nat.zero_add, Nat.add_sub_cancel, Nat.reduceAdd, Nat.reduceSub, Bool.not_true, Bool.not_false, Bool.false_eq_true, if_false, eDf, e2, r_part_of (show 1 ≤ k by omega)]
      rfl
  have s2 : ∀ c1 c2 c3 c4 : Bool, decide (prt T ov = 0) = c1 → (decide (p = .active) || decide (p = .after)) = c2 → decide (EQ.fin a = actOf T) = c3 → decide (T.many = .fin 0) = c4 →
      outD (exes (GmD k) [(.ift (.andE [(.cmp .eq (.var 4) (.glob c_ZERO)), (.cmp .isin (.var 1) (.tup [(.str "active"), (.str "after")])), (.cmp .eq (.var 2) (.call i_active_length [(.var 0)])), (.cmp .ne (.idx (.var 0) (.int 4)) (.glob c_ZERO))]) [(.ret (.glob c_ONE))] []), (.ret (.var 4))] [some (tmD T), some (.str (ph p)), some (frR a), some (eD ov), some (frR (prt T ov))] h) = some (frR (if (c1 && c2 && c3 && !c4) = true then 1 else prt T ov), h) := by
    intro c1 c2 c3 c4 h1 h2 h3 h4
    rw [h1] at e3
    rw [h3] at e4
    rw [h4] at e5
    have pin := ph_in p h
    rw [h2] at pin
    have e5 : eqD h (eD T.many) (frR 0) = some c4 := e5
    cases c1 <;> cases c2 <;> cases c3 <;> cases c4 <;> simp only [fn_G, con_G, pat_G, ev, evs, evAnd, evOr, evTests, asgT, asgTs, evIt, exe, exes, outD, startD, ob, om, g_b, b_add, b_sub, u_abs, u_int, u_intb, u_max, u_min, c_lt, c_le, c_gt, c_ge, c_eq, c_ne, eqD_int, eqD_bl, ix_0, ix_1, ix_2, fr_0, fr_1, isN_non, isN_fr, isN_e, isN_str, isN_int, isN_tup, lD_none, lD_some, oD_none, oD_some, isAbs, partR, tgS, tgSs, wipeD, List.map_cons, List.map_nil, List.length_cons, List.length_nil, List.cons_append, List.nil_append, List.append_nil, List.getElem?_cons_zero, List.getElem?_cons_succ, List.set_cons_zero, List.set_cons_succ, List.replicate_succ, List.replicate_zero, Nat.zero_add, Nat.add_sub_cancel, Nat.reduceAdd, Nat.reduceSub, Bool.not_true, Bool.not_false, Bool.false_eq_true, if_false, con0, con1, e3, lim2, if_true, pin, al, e4, tm_4, e5] <;> rfl
  have eq : sml T p a ov = if (decide (prt T ov = 0) && (decide (p = .active) || decide (p = .after)) && decide (EQ.fin a = actOf T) && !decide (T.many = .fin 0)) = true then 1 else prt T ov := by
    unfold sml
    simp only [Bool.and_eq_true, Bool.or_eq_true, decide_eq_true_eq, Bool.not_eq_true', decide_eq_false_iff_not, and_assoc, ne_eq]
  rw [eq, ← s2 _ _ _ _ rfl rfl rfl rfl]
  exact congrArg outD (exes_nx s1)
theorem zi_endless {K : Nat} (hK : 1 ≤ K) (i : Int) (h : MH) : runD K i_is_endless [.int i] h = some (.bl false, h) := by
  obtain ⟨k, rfl⟩ : ∃ k, K = k + 1 := ⟨K - 1, by omega⟩
  rw [run_is_endless _ _ _ rfl]
  have q : L2.kitB (tyn (.int i)) "str" = some false := rfl
  simp only [b_is_endless, fn_G, con_G, pat_G, ev, evs, evAnd, evOr, evTests, asgT, asgTs, evIt, exe, exes, outD, startD, ob, om, g_b, b_add, b_sub, u_abs, u_int, u_intb, u_max, u_min, c_lt, c_le, c_gt, c_ge, c_eq, c_ne, eqD_int, eqD_bl, ix_0, ix_1, ix_2, fr_0, fr_1, isN_non, isN_fr, isN_e, isN_str, isN_int, isN_tup, lD_none, lD_some, oD_none, oD_some, isAbs, partR, tgS, tgSs, wipeD, List.map_cons, List.map_nil, List.length_cons, List.length_nil, List.cons_append, List.nil_append, List.append_nil, List.getElem?_cons_zero, List.getElem?_cons_succ, List.set_cons_zero, List.set_cons_succ, List.replicate_succ, List.replicate_zero, Nat.zero_add, Nat.add_sub_cancel, Nat.reduceAdd, Nat.reduceSub, Bool.not_true, Bool.not_false, Bool.false_eq_true, if_false, q]
theorem r_iteration_of {K : Nat} (hK : 2 ≤ K) {pz qz : Nat} {T : Tm} (p : Ph) {ov : EQ} (zo : ZsE pz qz ov) (l1 : pz ≤ 9000) (l2 : qz ≤ 9000) (s : Rat) (h : MH) :
    runD K i_iteration_of [tmD T, .str (ph p), eD ov, frR s] h = some (itD (itr T p ov s), h) := by
  obtain ⟨k, rfl⟩ : ∃ k, K = k + 1 := ⟨K - 1, by omega⟩
  rw [run_iteration_of _ _ _ rfl]
  have e2 := r_endless (show 1 ≤ k by omega) ov h
  have e3 := r_endless (show 1 ≤ k by omega) T.many h
  have p2 : eqD h (.str (ph p)) (.str "after") = some (decide (p = .after)) := ph_eq p .after h
  have e4 := eqD_fr h s 1
  unfold itr
  cases ov with
  | inf =>
    rw [decide_eq_true rfl] at e2
    simp only [b_iteration_of, fn_G, con_G, pat_G, ev, evs, evAnd, evOr, evTests, asgT, asgTs, evIt, exe, exes, outD, startD, ob, om, g_b, b_add, b_sub, u_abs, u_int, u_intb, u_max, u_min, c_lt, c_le, c_gt, c_ge, c_eq, c_ne, eqD_int, eqD_bl, ix_0, ix_1, ix_2, fr_0, fr_1, isN_non, isN_fr, isN_e, isN_str, isN_int, isN_tup, lD_none, lD_some, oD_none, oD_some, isAbs, partR, tgS, tgSs, wipeD, List.map_cons, List.map_nil, List.length_cons, List.length_nil, List.cons_append, List.nil_append, List.append_nil, List.getElem?_cons_zero, List.getElem?_cons_succ, List.set_cons_zero, List.set_cons_succ, List.replicate_succ, List.replicate_zero, Nat.zero_add, Nat.add_sub_cancel, Nat.reduceAdd, Nat.reduceSub, Bool.not_true, Bool.not_false, Bool.false_eq_true, if_false, e2, conE]
    rfl
  | fin r =>
    have e2 : runD k i_is_endless [frR r] h = some (.bl false, h) := e2
    have zr : Zs pz qz r := zo
    have fl := r_floor_of (show 1 ≤ k by omega) (zr.sz l1 l2) (Nat.le_refl _) h
    dsimp only
    cases c1 : decide (p = .after) <;> cases c2 : decide (T.many = .inf)
    · rw [if_neg (by intro z; rw [decide_eq_true z.1] at c1; cases c1)]
      simp only [b_iteration_of, fn_G, con_G, pat_G, ev, evs, evAnd, evOr, evTests, asgT, asgTs, evIt, exe, exes, outD, startD, ob, om, g_b, b_add, b_sub, u_abs, u_int, u_intb, u_max, u_min, c_lt, c_le, c_gt, c_ge, c_eq, c_ne, eqD_int, eqD_bl, ix_0, ix_1, ix_2, fr_0, fr_1, isN_non, isN_fr, isN_e, isN_str, isN_int, isN_tup, lD_none, lD_some, oD_none, oD_some, isAbs, partR, tgS, tgSs, wipeD, List.map_cons, List.map_nil, List.length_cons, List.length_nil, List.cons_append, List.nil_append, List.append_nil, List.getElem?_cons_zero, List.getElem?_cons_succ, List.set_cons_zero, List.set_cons_succ, List.replicate_succ, List.replicate_zero, Nat.zero_add, Nat.add_sub_cancel, Nat.reduceAdd, Nat.reduceSub, Bool.not_true, Bool.not_false, Bool.false_eq_true, if_false, eDf, e2, p2, c1, fl, con1, e4, b01_if]
      rfl
    · rw [if_neg (by intro z; rw [decide_eq_true z.1] at c1; cases c1)]
      simp only [b_iteration_of, fn_G, con_G, pat_G, ev, evs, evAnd, evOr, evTests, asgT, asgTs, evIt, exe, exes, outD, startD, ob, om, g_b, b_add, b_sub, u_abs, u_int, u_intb, u_max, u_min, c_lt, c_le, c_gt, c_ge, c_eq, c_ne, eqD_int, eqD_bl, ix_0, ix_1, ix_2, fr_0, fr_1, isN_non, isN_fr, isN_e, isN_str, isN_int, isN_tup, lD_none, lD_some, oD_none, oD_some, isAbs, partR, tgS, tgSs, wipeD, List.map_cons, List.map_nil, List.length_cons, List.length_nil, List.cons_append, List.nil_append, List.append_nil, List.getElem?_cons_zero, List.getElem?_cons_succ, List.set_cons_zero, List.set_cons_succ, List.replicate_succ, List.replicate_zero, Nat.zero_add, Nat.add_sub_cancel, Nat.reduceAdd, Nat.reduceSub, Bool.not_true, Bool.not_false, Bool.false_eq_true, if_false, eDf, e2, p2, c1, fl, con1, e4, b01_if]
      rfl
    · rw [if_neg (by intro z; rw [decide_eq_true z.2] at c2; cases c2)]
      simp only [b_iteration_of, fn_G, con_G, pat_G, ev, evs, evAnd, evOr, evTests, asgT, asgTs, evIt, exe, exes, outD, startD, ob, om, g_b, b_add, b_sub, u_abs, u_int, u_intb, u_max, u_min, c_lt, c_le, c_gt, c_ge, c_eq, c_ne, eqD_int, eqD_bl, ix_0, ix_1, ix_2, fr_0, fr_1, isN_non, isN_fr, isN_e, isN_str, isN_int, isN_tup, lD_none, lD_some, oD_none, oD_some, isAbs, partR, tgS, tgSs, wipeD, List.map_cons, List.map_nil, List.length_cons, List.length_nil, List.cons_append, List.nil_append, List.append_nil, List.getElem?_cons_zero, List.getElem?_cons_succ, List.set_cons_zero, List.set_cons_succ, List.replicate_succ, List.replicate_zero, Nat.zero_add, Nat.add_sub_cancel, Nat.reduceAdd, Nat.reduceSub, Bool.not_true, Bool.not_false, Bool.false_eq_true, if_false, eDf, e2, p2, c1, tm_4, e3, c2, fl, con1, e4, b01_if]
      rfl
    · rw [if_pos ⟨of_decide_eq_true c1, of_decide_eq_true c2⟩]
      simp only [b_iteration_of, fn_G, con_G, pat_G, ev, evs, evAnd, evOr, evTests, asgT, asgTs, evIt, exe, exes, outD, startD, ob, om, g_b, b_add, b_sub, u_abs, u_int, u_intb, u_max, u_min, c_lt, c_le, c_gt, c_ge, c_eq, c_ne, eqD_int, eqD_bl, ix_0, ix_1, ix_2, fr_0, fr_1, isN_non, isN_fr, isN_e, isN_str, isN_int, isN_tup, lD_none, lD_some, oD_none, oD_some, isAbs, partR, tgS, tgSs, wipeD, List.map_cons, List.map_nil, List.length_cons, List.length_nil, List.cons_append, List.nil_append, List.append_nil, List.getElem?_cons_zero, List.getElem?_cons_succ, List.set_cons_zero, List.set_cons_succ, List.replicate_succ, List.replicate_zero, Nat.zero_add, Nat.add_sub_cancel, Nat.reduceAdd, Nat.reduceSub, Bool.not_true, Bool.not_false, Bool.false_eq_true, if_false, eDf, e2, p2, c1, tm_4, e3, c2, conE]
      rfl
theorem r_direction_of {K : Nat} (hK : 2 ≤ K) (w : Ww) (i : Option Int) (h : MH) : runD K i_direction_of [.str (ww w), itD i] h = some (.int (if bck w i = true then -1 else 1), h) := by
  obtain ⟨k, rfl⟩ : ∃ k, K = k + 1 := ⟨K - 1, by omega⟩
  rw [run_direction_of _ _ _ rfl]
  have lim2 : (0 + 1 + 1 ≤ LIM) = True := by simp [LIM]
  have md : ∀ j : Int, binD .mod (.int j) (.int 2) h = some (.int (j % 2), h) := fun j => b_mod h (by decide)
  cases w with
  | no => simp only [b_direction_of, fn_G, con_G, pat_G, ev, evs, evAnd, evOr, evTests, asgT, asgTs, evIt, exe, exes, outD, startD, ob, om, g_b, b_add, b_sub, u_abs, u_int, u_intb, u_max, u_min, c_lt, c_le, c_gt, c_ge, c_eq, c_ne, eqD_int, eqD_bl, ix_0, ix_1, ix_2, fr_0, fr_1, isN_non, isN_fr, isN_e, isN_str, isN_int, isN_tup, lD_none, lD_some, oD_none, oD_some, isAbs, partR, tgS, tgSs, wipeD, List.map_cons, List.map_nil, List.length_cons, List.length_nil, List.cons_append, List.nil_append, List.append_nil, List.getElem?_cons_zero, List.getElem?_cons_succ, List.set_cons_zero, List.set_cons_succ, List.replicate_succ, List.replicate_zero, Nat.zero_add, Nat.add_sub_cancel, Nat.reduceAdd, Nat.reduceSub, Bool.not_true, Bool.not_false, Bool.false_eq_true, if_false, lim2, if_true, ww_nr, wNR, ww_n, wIsN]; rfl
  | re => simp only [b_direction_of, fn_G, con_G, pat_G, ev, evs, evAnd, evOr, evTests, asgT, asgTs, evIt, exe, exes, outD, startD, ob, om, g_b, b_add, b_sub, u_abs, u_int, u_intb, u_max, u_min, c_lt, c_le, c_gt, c_ge, c_eq, c_ne, eqD_int, eqD_bl, ix_0, ix_1, ix_2, fr_0, fr_1, isN_non, isN_fr, isN_e, isN_str, isN_int, isN_tup, lD_none, lD_some, oD_none, oD_some, isAbs, partR, tgS, tgSs, wipeD, List.map_cons, List.map_nil, List.length_cons, List.length_nil, List.cons_append, List.nil_append, List.append_nil, List.getElem?_cons_zero, List.getElem?_cons_succ, List.set_cons_zero, List.set_cons_succ, List.replicate_succ, List.replicate_zero, Nat.zero_add, Nat.add_sub_cancel, Nat.reduceAdd, Nat.reduceSub, Bool.not_true, Bool.not_false, Bool.false_eq_true, if_false, lim2, if_true, ww_nr, wNR, ww_n, wIsN]; rfl
  | al => cases i with
    | none =>
      have e2 := r_endless (show 1 ≤ k by omega) .inf h
      rw [decide_eq_true rfl] at e2
      have e2 : runD k i_is_endless [itD none] h = some (.bl true, h) := e2
      simp only [b_direction_of, fn_G, con_G, pat_G, ev, evs, evAnd, evOr, evTests, asgT, asgTs, evIt, exe, exes, outD, startD, ob, om, g_b, b_add, b_sub, u_abs, u_int, u_intb, u_max, u_min, c_lt, c_le, c_gt, c_ge, c_eq, c_ne, eqD_int, eqD_bl, ix_0, ix_1, ix_2, fr_0, fr_1, isN_non, isN_fr, isN_e, isN_str, isN_int, isN_tup, lD_none, lD_some, oD_none, oD_some, isAbs, partR, tgS, tgSs, wipeD, List.map_cons, List.map_nil, List.length_cons, List.length_nil, List.cons_append, List.nil_append, List.append_nil, List.getElem?_cons_zero, List.getElem?_cons_succ, List.set_cons_zero, List.set_cons_succ, List.replicate_succ, List.replicate_zero, Nat.zero_add, Nat.add_sub_cancel, Nat.reduceAdd, Nat.reduceSub, Bool.not_true, Bool.not_false, Bool.false_eq_true, if_false, lim2, if_true, ww_nr, wNR, e2]; rfl
    | some j =>
      have e2 := zi_endless (show 1 ≤ k by omega) j h
      by_cases c : j % 2 = 0
      · have b : bck .al (some j) = false := decide_eq_false (fun z => z c)
        simp only [b_direction_of, fn_G, con_G, pat_G, ev, evs, evAnd, evOr, evTests, asgT, asgTs, evIt, exe, exes, outD, startD, ob, om, g_b, b_add, b_sub, u_abs, u_int, u_intb, u_max, u_min, c_lt, c_le, c_gt, c_ge, c_eq, c_ne, eqD_int, eqD_bl, ix_0, ix_1, ix_2, fr_0, fr_1, isN_non, isN_fr, isN_e, isN_str, isN_int, isN_tup, lD_none, lD_some, oD_none, oD_some, isAbs, partR, tgS, tgSs, wipeD, List.map_cons, List.map_nil, List.length_cons, List.length_nil, List.cons_append, List.nil_append, List.append_nil, List.getElem?_cons_zero, List.getElem?_cons_succ, List.set_cons_zero, List.set_cons_succ, List.replicate_succ, List.replicate_zero, Nat.zero_add, Nat.add_sub_cancel, Nat.reduceAdd, Nat.reduceSub, Bool.not_true, Bool.not_false, Bool.false_eq_true, if_false, lim2, if_true, ww_nr, wNR, itD, e2, ww_ar, wIsA, Int.add_zero, md, decide_eq_true c, b]
      · have b : bck .al (some j) = true := decide_eq_true c
        simp only [b_direction_of, fn_G, con_G, pat_G, ev, evs, evAnd, evOr, evTests, asgT, asgTs, evIt, exe, exes, outD, startD, ob, om, g_b, b_add, b_sub, u_abs, u_int, u_intb, u_max, u_min, c_lt, c_le, c_gt, c_ge, c_eq, c_ne, eqD_int, eqD_bl, ix_0, ix_1, ix_2, fr_0, fr_1, isN_non, isN_fr, isN_e, isN_str, isN_int, isN_tup, lD_none, lD_some, oD_none, oD_some, isAbs, partR, tgS, tgSs, wipeD, List.map_cons, List.map_nil, List.length_cons, List.length_nil, List.cons_append, List.nil_append, List.append_nil, List.getElem?_cons_zero, List.getElem?_cons_succ, List.set_cons_zero, List.set_cons_succ, List.replicate_succ, List.replicate_zero, Nat.zero_add, Nat.add_sub_cancel, Nat.reduceAdd, Nat.reduceSub, Bool.not_true, Bool.not_false, Bool.false_eq_true, if_false, lim2, if_true, ww_nr, wNR, itD, e2, ww_ar, wIsA, Int.add_zero, md, decide_eq_false c, b]
  | ar => cases i with
    | none =>
      have e2 := r_endless (show 1 ≤ k by omega) .inf h
      rw [decide_eq_true rfl] at e2
      have e2 : runD k i_is_endless [itD none] h = some (.bl true, h) := e2
      simp only [b_direction_of, fn_G, con_G, pat_G, ev, evs, evAnd, evOr, evTests, asgT, asgTs, evIt, exe, exes, outD, startD, ob, om, g_b, b_add, b_sub, u_abs, u_int, u_intb, u_max, u_min, c_lt, c_le, c_gt, c_ge, c_eq, c_ne, eqD_int, eqD_bl, ix_0, ix_1, ix_2, fr_0, fr_1, isN_non, isN_fr, isN_e, isN_str, isN_int, isN_tup, lD_none, lD_some, oD_none, oD_some, isAbs, partR, tgS, tgSs, wipeD, List.map_cons, List.map_nil, List.length_cons, List.length_nil, List.cons_append, List.nil_append, List.append_nil, List.getElem?_cons_zero, List.getElem?_cons_succ, List.set_cons_zero, List.set_cons_succ, List.replicate_succ, List.replicate_zero, Nat.zero_add, Nat.add_sub_cancel, Nat.reduceAdd, Nat.reduceSub, Bool.not_true, Bool.not_false, Bool.false_eq_true, if_false, lim2, if_true, ww_nr, wNR, e2]; rfl
    | some j =>
      have e2 := zi_endless (show 1 ≤ k by omega) j h
      by_cases c : (j + 1) % 2 = 0
      · have b : bck .ar (some j) = false := decide_eq_false (fun z => z c)
        simp only [b_direction_of, fn_G, con_G, pat_G, ev, evs, evAnd, evOr, evTests, asgT, asgTs, evIt, exe, exes, outD, startD, ob, om, g_b, b_add, b_sub, u_abs, u_int, u_intb, u_max, u_min, c_lt, c_le, c_gt, c_ge, c_eq, c_ne, eqD_int, eqD_bl, ix_0, ix_1, ix_2, fr_0, fr_1, isN_non, isN_fr, isN_e, isN_str, isN_int, isN_tup, lD_none, lD_some, oD_none, oD_some, isAbs, partR, tgS, tgSs, wipeD, List.map_cons, List.map_nil, List.length_cons, List.length_nil, List.cons_append, List.nil_append, List.append_nil, List.getElem?_cons_zero, List.getElem?_cons_succ, List.set_cons_zero, List.set_cons_succ, List.replicate_succ, List.replicate_zero, Nat.zero_add, Nat.add_sub_cancel, Nat.reduceAdd, Nat.reduceSub, Bool.not_true, Bool.not_false, Bool.false_eq_true, if_false, lim2, if_true, ww_nr, wNR, itD, e2, ww_ar, wIsA, md, decide_eq_true c, b]
      · have b : bck .ar (some j) = true := decide_eq_true c
        simp only [b_direction_of, fn_G, con_G, pat_G, ev, evs, evAnd, evOr, evTests, asgT, asgTs, evIt, exe, exes, outD, startD, ob, om, g_b, b_add, b_sub, u_abs, u_int, u_intb, u_max, u_min, c_lt, c_le, c_gt, c_ge, c_eq, c_ne, eqD_int, eqD_bl, ix_0, ix_1, ix_2, fr_0, fr_1, isN_non, isN_fr, isN_e, isN_str, isN_int, isN_tup, lD_none, lD_some, oD_none, oD_some, isAbs, partR, tgS, tgSs, wipeD, List.map_cons, List.map_nil, List.length_cons, List.length_nil, List.cons_append, List.nil_append, List.append_nil, List.getElem?_cons_zero, List.getElem?_cons_succ, List.set_cons_zero, List.set_cons_succ, List.replicate_succ, List.replicate_zero, Nat.zero_add, Nat.add_sub_cancel, Nat.reduceAdd, Nat.reduceSub, Bool.not_true, Bool.not_false, Bool.false_eq_true, if_false, lim2, if_true, ww_nr, wNR, itD, e2, ww_ar, wIsA, md, decide_eq_false c, b]
theorem phsT_idle (T : Tm) (t : Rat) (s : Bool) : phsT T t s ≠ .idle := by
  unfold phsT
  simp only
  split
  · exact fun z => by cases z
  · split
    · exact fun z => by cases z
    · exact fun z => by cases z
def LnOk (c : Cv) : Prop := ∀ ps, c = .lin ps → ps.length < 1000
theorem r_told_in {K : Nat} (hK : 9 ≤ K) {d q m dt qt : Nat} {T : Tm} (o : TmZ d q m T) (m0 : 0 < m) (l1 : d ≤ 1000) (l2 : q ≤ 700) (l3 : m ≤ 150) {t : Rat} (zt : Zs dt qt t) (l4 : dt ≤ 2000) (l5 : q + qt + 4 * m ≤ 700) (lc : LnOk T.cv) (s : Bool) (h : MH) :
    ∃ h', runD K i_told_in [tmD T, frR t, .int (sgn s)] h = some (toldD (told T (some t) s), h') ∧ Ap h h' := by
  obtain ⟨k, rfl⟩ : ∃ k, K = k + 1 := ⟨K - 1, by omega⟩
  rw [run_told_in _ _ _ rfl]
  have e1 := r_phase_of (show 6 ≤ k by omega) o m0 l1 (show q ≤ 1000 by omega) (show m ≤ 1000 by omega) zt l4 (by omega) s h
  have e2 := r_active_time (show 5 ≤ k by omega) o m0 l1 (show q ≤ 1000 by omega) (show m ≤ 1000 by omega) zt l4 (by omega) _ (phsT_idle T t s) T.fill h
  unfold told
  simp only
  generalize phsT T t s = p at e1 e2
  have lim7 : (0 + 1 + 1 + 1 + 1 + 1 + 1 + 1 ≤ LIM) = True := by simp [LIM]
  have lim2 : (0 + 1 + 1 ≤ LIM) = True := by simp [LIM]
  cases ha : actv T t p T.fill with
  | none =>
    rw [ha] at e2
    refine ⟨h, ?_, Ap.refl h⟩
    simp only [b_told_in, fn_G, con_G, pat_G, ev, evs, evAnd, evOr, evTests, asgT, asgTs, evIt, exe, exes, outD, startD, ob, om, g_b, b_add, b_sub, u_abs, u_int, u_intb, u_max, u_min, c_lt, c_le, c_gt, c_ge, c_eq, c_ne, eqD_int, eqD_bl, ix_0, ix_1, ix_2, fr_0, fr_1, isN_non, isN_fr, isN_e, isN_str, isN_int, isN_tup, lD_none, lD_some, oD_none, oD_some, isAbs, partR, tgS, tgSs, wipeD, List.map_cons, List.map_nil, List.length_cons, List.length_nil, List.cons_append, List.nil_append, List.append_nil, List.getElem?_cons_zero, List.getElem?_cons_succ, List.set_cons_zero, List.set_cons_succ, List.replicate_succ, List.replicate_zero, Nat.zero_add, Nat.add_sub_cancel, Nat.reduceAdd, Nat.reduceSub, Bool.not_true, Bool.not_false, Bool.false_eq_true, if_false, e1, tm_2, e2, lim7, if_true]
    rfl
  | some a =>
    rw [ha] at e2
    have e2 : runD k i_active_time [tmD T, frR t, .str (ph p), .str (fw T.fill)] h = some (frR a, h) := e2
    have za := actv_sz o m0 zt ha
    have e3 := r_overall_of (show 4 ≤ k by omega) o m0 (by omega) za (by omega) (by omega) p h
    have zo := ovr_sz o m0 za p
    have e4 := r_simple_of (show 5 ≤ k by omega) o m0 l1 (by omega) (by omega) p a (ovr T p a) h
    have zs := sml_sz o zo (by omega) m0 p a
    show ∃ h', _ = some (D.tup (.str (ph p) :: t5D (tld T p a)), h') ∧ Ap h h'
    unfold tld
    simp only
    generalize hov : ovr T p a = ov at e3 e4 zo zs
    generalize hsm : sml T p a ov = sm at e4 zs
    have e5 := r_iteration_of (show 2 ≤ k by omega) (T := T) p zo (by omega) (by omega) sm h
    generalize hit : itr T p ov sm = it at e5
    have e6 := r_direction_of (show 2 ≤ k by omega) T.way it h
    cases hb : bck T.way it with
    | false =>
      rw [hb] at e6
      have e6 : runD k i_direction_of [.str (ww T.way), itD it] h = some (.int 1, h) := e6
      have ei := early_in p false h
      have ei : cmpD .isin h (.tup [.str (ph p), .int 1]) (.tup [.tup [.str "before", .int 1], .tup [.str "after", .int (-1)]]) = some (early p false) := ei
      obtain ⟨h', e7, a7⟩ := r_led (show 8 ≤ k by omega) m0 (by omega) T.cv o.cv lc (zs.mono (show q + qt + 2 * m + 2 * m ≤ 780 by omega)) (Nat.le_refl _) (by omega) (early p false) h
      refine ⟨h', ?_, a7⟩
      simp only [b_told_in, fn_G, con_G, pat_G, ev, evs, evAnd, evOr, evTests, asgT, asgTs, evIt, exe, exes, outD, startD, ob, om, g_b, b_add, b_sub, u_abs, u_int, u_intb, u_max, u_min, c_lt, c_le, c_gt, c_ge, c_eq, c_ne, eqD_int, eqD_bl, ix_0, ix_1, ix_2, fr_0, fr_1, isN_non, isN_fr, isN_e, isN_str, isN_int, isN_tup, lD_none, lD_some, oD_none, oD_some, isAbs, partR, tgS, tgSs, wipeD, List.map_cons, List.map_nil, List.length_cons, List.length_nil, List.cons_append, List.nil_append, List.append_nil, List.getElem?_cons_zero, List.getElem?_cons_succ, List.set_cons_zero, List.set_cons_succ, List.replicate_succ, List.replicate_zero, Nat.zero_add, Nat.add_sub_cancel, Nat.reduceAdd, Nat.reduceSub, Bool.not_true, Bool.not_false, Bool.false_eq_true, if_false, e1, tm_2, e2, e3, e4, e5, tm_6, e6, decide_true, lim2, if_true, ei, tm_7, e7, lim7, t5D]
    | true =>
      rw [hb] at e6
      have e6 : runD k i_direction_of [.str (ww T.way), itD it] h = some (.int (-1), h) := e6
      have ei := early_in p true h
      have ei : cmpD .isin h (.tup [.str (ph p), .int (-1)]) (.tup [.tup [.str "before", .int 1], .tup [.str "after", .int (-1)]]) = some (early p true) := ei
      have mn := r_minus (show 3 ≤ k by omega) Sz1 zs (by omega) h
      obtain ⟨h', e7, a7⟩ := r_led (show 8 ≤ k by omega) m0 (by omega) T.cv o.cv lc ((Sz1.sub zs).mono (show 1 + (q + qt + 2 * m + 2 * m) + 1 ≤ 780 by omega)) (Nat.le_refl _) (by omega) (early p true) h
      have d1 : decide ((-1 : Int) = 1) = false := rfl
      refine ⟨h', ?_, a7⟩
      simp only [b_told_in, fn_G, con_G, pat_G, ev, evs, evAnd, evOr, evTests, asgT, asgTs, evIt, exe, exes, outD, startD, ob, om, g_b, b_add, b_sub, u_abs, u_int, u_intb, u_max, u_min, c_lt, c_le, c_gt, c_ge, c_eq, c_ne, eqD_int, eqD_bl, ix_0, ix_1, ix_2, fr_0, fr_1, isN_non, isN_fr, isN_e, isN_str, isN_int, isN_tup, lD_none, lD_some, oD_none, oD_some, isAbs, partR, tgS, tgSs, wipeD, List.map_cons, List.map_nil, List.length_cons, List.length_nil, List.cons_append, List.nil_append, List.append_nil, List.getElem?_cons_zero, List.getElem?_cons_succ, List.set_cons_zero, List.set_cons_succ, List.replicate_succ, List.replicate_zero, Nat.zero_add, Nat.add_sub_cancel, Nat.reduceAdd, Nat.reduceSub, Bool.not_true, Bool.not_false, Bool.false_eq_true, if_false, e1, tm_2, e2, e3, e4, e5, tm_6, e6, d1, con1, mn, lim2, if_true, ei, tm_7, e7, lim7, t5D]
theorem r_told_none {K : Nat} (hK : 2 ≤ K) (T : Tm) (s : Bool) (h : MH) : runD K i_told_in [tmD T, .non, .int (sgn s)] h = some (toldD (.idle, none), h) := by
  obtain ⟨k, rfl⟩ : ∃ k, K = k + 1 := ⟨K - 1, by omega⟩
  rw [run_told_in _ _ _ rfl]
  have lim7 : (0 + 1 + 1 + 1 + 1 + 1 + 1 + 1 ≤ LIM) = True := by simp [LIM]
  have lim2 : (0 + 1 + 1 ≤ LIM) = True := by simp [LIM]
  have e1 : runD k i_phase_of [tmD T, .non, .int (sgn s)] h = some (.str "idle", h) := by
    obtain ⟨j, rfl⟩ : ∃ j, k = j + 1 := ⟨k - 1, by omega⟩
    rw [run_phase_of _ _ _ rfl]
    simp only [b_phase_of, fn_G, con_G, pat_G, ev, evs, evAnd, evOr, evTests, asgT, asgTs, evIt, exe, exes, outD, startD, ob, om, g_b, b_add, b_sub, u_abs, u_int, u_intb, u_max, u_min, c_lt, c_le, c_gt, c_ge, c_eq, c_ne, eqD_int, eqD_bl, ix_0, ix_1, ix_2, fr_0, fr_1, isN_non, isN_fr, isN_e, isN_str, isN_int, isN_tup, lD_none, lD_some, oD_none, oD_some, isAbs, partR, tgS, tgSs, wipeD, List.map_cons, List.map_nil, List.length_cons, List.length_nil, List.cons_append, List.nil_append, List.append_nil, List.getElem?_cons_zero, List.getElem?_cons_succ, List.set_cons_zero, List.set_cons_succ, List.replicate_succ, List.replicate_zero, Nat.zero_add, Nat.add_sub_cancel, Nat.reduceAdd, Nat.reduceSub, Bool.not_true, Bool.not_false, Bool.false_eq_true, if_false]
  have e2 : runD k i_active_time [tmD T, .non, .str "idle", .str (fw T.fill)] h = some (.non, h) := by
    obtain ⟨j, rfl⟩ : ∃ j, k = j + 1 := ⟨k - 1, by omega⟩
    rw [run_active_time _ _ _ rfl]
    have p1 := ph_eq .idle .active h
    have p2 := ph_eq .idle .before h
    have p3 := ph_eq .idle .after h
    have p1 : eqD h (.str "idle") (.str "active") = some false := p1
    have p2 : eqD h (.str "idle") (.str "before") = some false := p2
    have p3 : eqD h (.str "idle") (.str "after") = some false := p3
    simp only [b_active_time, fn_G, con_G, pat_G, ev, evs, evAnd, evOr, evTests, asgT, asgTs, evIt, exe, exes, outD, startD, ob, om, g_b, b_add, b_sub, u_abs, u_int, u_intb, u_max, u_min, c_lt, c_le, c_gt, c_ge, c_eq, c_ne, eqD_int, eqD_bl, ix_0, ix_1, ix_2, fr_0, fr_1, isN_non, isN_fr, isN_e, isN_str, isN_int, isN_tup, lD_none, lD_some, oD_none, oD_some, isAbs, partR, tgS, tgSs, wipeD, List.map_cons, List.map_nil, List.length_cons, List.length_nil, List.cons_append, List.nil_append, List.append_nil, List.getElem?_cons_zero, List.getElem?_cons_succ, List.set_cons_zero, List.set_cons_succ, List.replicate_succ, List.replicate_zero, Nat.zero_add, Nat.add_sub_cancel, Nat.reduceAdd, Nat.reduceSub, Bool.not_true, Bool.not_false, Bool.false_eq_true, if_false, p1, p2, p3]
  simp only [b_told_in, fn_G, con_G, pat_G, ev, evs, evAnd, evOr, evTests, asgT, asgTs, evIt, exe, exes, outD, startD, ob, om, g_b, b_add, b_sub, u_abs, u_int, u_intb, u_max, u_min, c_lt, c_le, c_gt, c_ge, c_eq, c_ne, eqD_int, eqD_bl, ix_0, ix_1, ix_2, fr_0, fr_1, isN_non, isN_fr, isN_e, isN_str, isN_int, isN_tup, lD_none, lD_some, oD_none, oD_some, isAbs, partR, tgS, tgSs, wipeD, List.map_cons, List.map_nil, List.length_cons, List.length_nil, List.cons_append, List.nil_append, List.append_nil, List.getElem?_cons_zero, List.getElem?_cons_succ, List.set_cons_zero, List.set_cons_succ, List.replicate_succ, List.replicate_zero, Nat.zero_add, Nat.add_sub_cancel, Nat.reduceAdd, Nat.reduceSub, Bool.not_true, Bool.not_false, Bool.false_eq_true, if_false, e1, tm_2, e2, lim7, if_true]
  rfl
def timeOk (dt qt : Nat) (t : Option Rat) : Prop := ∀ r, t = some r → Zs dt qt r
theorem r_told_at {K : Nat} (hK : 10 ≤ K) {d q m dt qt : Nat} {T : Tm} (o : TmZ d q m T) (m0 : 0 < m) (l1 : d ≤ 1000) (l2 : q ≤ 700) (l3 : m ≤ 150) {t : Option Rat} (zt : timeOk dt qt t) (l4 : dt ≤ 2000) (l5 : q + qt + 4 * m ≤ 700) (lc : LnOk T.cv) (s : Bool) (h : MH) :
    ∃ h', runD K i_told_at [tmD T, oD t, .int (sgn s)] h = some (toldD (told T t s), h') ∧ Ap h h' := by
  obtain ⟨k, rfl⟩ : ∃ k, K = k + 1 := ⟨K - 1, by omega⟩
  rw [run_told_at _ _ _ rfl]
  obtain ⟨h1, e1, a1⟩ := r_check_timing (show 6 ≤ k by omega) T (o.ok (n := 1000) l1 (by omega) (by omega)) h
  have w := r_is_whole (show 1 ≤ k by omega) (sgn s) h1
  have lim2 : (0 + 1 + 1 ≤ LIM) = True := by simp [LIM]
  have si : cmpD .notin h1 (.int (sgn s)) (.tup [.int 1, .int (-1)]) = some false := by
    show (inP (.int (sgn s)) (.tuple [.int 1, .int (-1)])).map (!·) = _
    cases s <;> decide +kernel
  cases t with
  | none =>
    have e2 := r_told_none (show 2 ≤ k by omega) T s h1
    refine ⟨h1, ?_, a1⟩
    simp only [b_told_at, fn_G, con_G, pat_G, ev, evs, evAnd, evOr, evTests, asgT, asgTs, evIt, exe, exes, outD, startD, ob, om, g_b, b_add, b_sub, u_abs, u_int, u_intb, u_max, u_min, c_lt, c_le, c_gt, c_ge, c_eq, c_ne, eqD_int, eqD_bl, ix_0, ix_1, ix_2, fr_0, fr_1, isN_non, isN_fr, isN_e, isN_str, isN_int, isN_tup, lD_none, lD_some, oD_none, oD_some, isAbs, partR, tgS, tgSs, wipeD, List.map_cons, List.map_nil, List.length_cons, List.length_nil, List.cons_append, List.nil_append, List.append_nil, List.getElem?_cons_zero, List.getElem?_cons_succ, List.set_cons_zero, List.set_cons_succ, List.replicate_succ, List.replicate_zero, Nat.zero_add, Nat.add_sub_cancel, Nat.reduceAdd, Nat.reduceSub, Bool.not_true, Bool.not_false, Bool.false_eq_true, if_false, e1, w, lim2, if_true, si, e2]
    rfl
  | some t =>
    obtain ⟨h2, e2, a2⟩ := r_told_in (show 9 ≤ k by omega) o m0 l1 l2 l3 (zt t rfl) l4 l5 lc s h1
    have f := r_is_fraction (show 2 ≤ k by omega) t h1
    refine ⟨h2, ?_, a1.trans a2⟩
    simp only [b_told_at, fn_G, con_G, pat_G, ev, evs, evAnd, evOr, evTests, asgT, asgTs, evIt, exe, exes, outD, startD, ob, om, g_b, b_add, b_sub, u_abs, u_int, u_intb, u_max, u_min, c_lt, c_le, c_gt, c_ge, c_eq, c_ne, eqD_int, eqD_bl, ix_0, ix_1, ix_2, fr_0, fr_1, isN_non, isN_fr, isN_e, isN_str, isN_int, isN_tup, lD_none, lD_some, oD_none, oD_some, isAbs, partR, tgS, tgSs, wipeD, List.map_cons, List.map_nil, List.length_cons, List.length_nil, List.cons_append, List.nil_append, List.append_nil, List.getElem?_cons_zero, List.getElem?_cons_succ, List.set_cons_zero, List.set_cons_succ, List.replicate_succ, List.replicate_zero, Nat.zero_add, Nat.add_sub_cancel, Nat.reduceAdd, Nat.reduceSub, Bool.not_true, Bool.not_false, Bool.false_eq_true, if_false, e1, f, w, lim2, if_true, si, e2]

/-! ### the law: phases and moments -/
theorem r_law_phase {K : Nat} (hK : 6 ≤ K) {d q m dt qt : Nat} {T : Tm} (o : TmZ d q m T) (m0 : 0 < m) (l1 : d ≤ 1000) (l2 : q ≤ 1000) (l3 : m ≤ 1000) {t : Rat} (zt : Zs dt qt t) (l4 : dt ≤ 2000) (l5 : qt ≤ 2000) (s : Bool) (h : MH) :
    runD K i_law_phase [tmD T, frR t, .int (sgn s)] h = some (.str (ph (phsT T t s)), h) := by
  obtain ⟨k, rfl⟩ : ∃ k, K = k + 1 := ⟨K - 1, by omega⟩
  rw [run_law_phase _ _ _ rfl]
  have ae := r_law_ends (show 5 ≤ k by omega) (o.ok l1 l2 l3) (by decide) (Nat.le_refl _) h
  obtain ⟨z1, z2, z3⟩ := o.edg m0
  have zt' : SzE 2000 (.fin t) := Zs.sz zt l4 l5
  have ls1 := r_law_is_less (show 2 ≤ k by omega) zt' (z1.sz (n := 7000) (by omega) (by omega)) (by omega) h
  have ls2 := r_law_is_less (show 2 ≤ k by omega) (z2.sz (n := 7000) (by omega) (by omega)) zt' (by omega) h
  have ls1 : runD k i_law_is_less [frR t, eD (edgT T).1] h = some (.bl (elt (.fin t) (edgT T).1), h) := ls1
  have ls2 : runD k i_law_is_less [eD (edgT T).2.1, frR t] h = some (.bl (elt (edgT T).2.1 (.fin t)), h) := ls2
  unfold phsT
  generalize edgT T = E at *
  have key : ∀ b1 b2 b3 b4 : Bool, elt (.fin t) E.1 = b1 → decide (EQ.fin t = E.1) = b2 → elt E.2.1 (.fin t) = b3 → decide (EQ.fin t = E.2.1) = b4 →
      outD (exes (GmD k) b_law_phase (startD 7 [tmD T, frR t, .int (sgn s)]) h) = some (.str (ph (if (b1 || (b2 && !s)) = true then .before else if (b3 || (b4 && s)) = true then .after else .active)), h) := by
    intro b1 b2 b3 b4 e1 e2 e3 e4
    rw [e1] at ls1
    rw [e3] at ls2
    have q1 := eq_frE h t E.1
    have q2 := eq_frE h t E.2.1
    rw [e2] at q1
    rw [e4] at q2
    have hs1 : decide (sgn s < 0) = !s := by cases s <;> rfl
    have hs2 : decide (0 < sgn s) = s := by cases s <;> rfl
    cases b1 <;> cases b2 <;> cases b3 <;> cases b4 <;> cases s <;>
      simp only [b_law_phase, fn_G, con_G, pat_G, ev, evs, evAnd, evOr, evTests, asgT, asgTs, evIt, exe, exes, outD, startD, ob, om, g_b, b_add, b_sub, u_abs, u_int, u_intb, u_max, u_min, c_lt, c_le, c_gt, c_ge, c_eq, c_ne, eqD_int, eqD_bl, ix_0, ix_1, ix_2, fr_0, fr_1, isN_non, isN_fr, isN_e, isN_str, isN_int, isN_tup, lD_none, lD_some, oD_none, oD_some, isAbs, partR, tgS, tgSs, wipeD, List.map_cons, List.map_nil, List.length_cons, List.length_nil, List.cons_append, List.nil_append, List.append_nil, List.getElem?_cons_zero, List.getElem?_cons_succ, List.set_cons_zero, List.set_cons_succ, List.replicate_succ, List.replicate_zero, Nat.zero_add, Nat.add_sub_cancel, Nat.reduceAdd, Nat.reduceSub, Bool.not_true, Bool.not_false, Bool.false_eq_true, if_false, ae, it_tup, ls1, ls2, q1, q2, hs1, hs2] <;> rfl
  exact key _ _ _ _ rfl rfl rfl rfl
def MomZ (d q m : Nat) (x : Rat) : Prop := Zs (d + q + 4 * m + 50) (q + 3 * m + 40) x
theorem r_law_moments {K : Nat} (hK : 6 ≤ K) {s : Nat} {h : MH} (H : SrcH h s) {d q m : Nat} {T : Tm} (o : TmZ d q m T) (m0 : 0 < m) (l1 : d ≤ 1000) (l2 : q ≤ 1000) (l3 : m ≤ 1000) :
    ∃ (xs : List Rat) (n : Nat) (h' : MH), runD K i_law_moments [.ref s, tmD T] h = some (.ref n, h') ∧ h'[n]? = some (xs.map frR) ∧ Dr s h h' ∧ (∀ x ∈ xs, MomZ d q m x) ∧ n ≠ s ∧ xs.length ≤ 40 ∧ xs ≠ [] := by
  obtain ⟨k, rfl⟩ : ∃ k, K = k + 1 := ⟨K - 1, by omega⟩
  rw [run_law_moments _ _ _ rfl]
  have ae := r_law_ends (show 5 ≤ k by omega) (o.ok l1 l2 l3) (by decide) (Nat.le_refl _) h
  obtain ⟨z1, z2, z3⟩ := o.edg m0
  have ns : h.length ≠ s := by have := H.lt; omega
  have zd : ZsE d q (.fin T.delay) := o.delay
  have za := (o.act m0)
  have ad := r_law_added (show 4 ≤ k by omega) (a := .fin T.delay) (b := actOf T) (n := 1000) (m := 2000) (o.delay.sz l1 l2) (za.mono (by omega)) (by omega) h
  have zad := zd.add za.zs
  have ad : runD k i_law_added [frR T.delay, eD (actOf T)] h = some (eD (eadd (.fin T.delay) (actOf T)), h) := ad
  have lim2 : (0 + 1 + 1 ≤ LIM) = True := by simp [LIM]
  have lim4 : (0 + 1 + 1 + 1 + 1 ≤ LIM) = True := by simp [LIM]
  have lim5 : (0 + 1 + 1 + 1 + 1 + 1 ≤ LIM) = True := by simp [LIM]
  have lim1 : (0 + 1 ≤ LIM) = True := by simp [LIM]
  -- the edges
  have s1 : exe (GmD k) (.asg (.tp [(.nm 4), (.nm 5), (.nm 6), (.nm 7)]) (.call i_law_ends [(.var 1)])) (startD 11 [.ref s, tmD T]) h = some (.nx, [some (.ref s), some (tmD T), none, none, some (eD (edgT T).1), some (eD (edgT T).2.1), some (eD (edgT T).2.2), some (eD (actOf T)), none, none, none], h) := by
    simp only [fn_G, con_G, pat_G, ev, evs, evAnd, evOr, evTests, asgT, asgTs, evIt, exe, exes, outD, startD, ob, om, g_b, b_add, b_sub, u_abs, u_int, u_intb, u_max, u_min, c_lt, c_le, c_gt, c_ge, c_eq, c_ne, eqD_int, eqD_bl, ix_0, ix_1, ix_2, fr_0, fr_1, isN_non, isN_fr, isN_e, isN_str, isN_int, isN_tup, lD_none, lD_some, oD_none, oD_some, isAbs, partR, tgS, tgSs, wipeD, List.map_cons, List.map_nil, List.length_cons, List.length_nil, List.cons_append, List.nil_append, List.append_nil, List.getElem?_cons_zero, List.getElem?_cons_succ, List.set_cons_zero, List.set_cons_succ, List.replicate_succ, List.replicate_zero, Nat.zero_add, Nat.add_sub_cancel, Nat.reduceAdd, Nat.reduceSub, Bool.not_true, Bool.not_false, Bool.false_eq_true, if_false, ae, it_tup]
  obtain ⟨es, hes⟩ : ∃ es : List EQ, es = [(edgT T).1, (edgT T).2.1, (edgT T).2.2, .fin T.delay, eadd (.fin T.delay) (actOf T)] := ⟨_, rfl⟩
  have zes : ∀ x ∈ es, ZsE (d + q + 4 * m + 6) (q + 3 * m + 1) x := by
    intro x hx
    rw [hes] at hx
    simp only [List.mem_cons, List.not_mem_nil, or_false] at hx
    rcases hx with rfl | rfl | rfl | rfl | rfl
    · exact z1.mono (by omega) (by omega)
    · exact z2.mono (by omega) (by omega)
    · exact z3.mono (by omega) (by omega)
    · exact zd.mono (by omega) (by omega)
    · exact zad.mono (by omega) (by omega)
  obtain ⟨x0, hx0⟩ : ∃ x0, es.filterMap finE = x0 := ⟨_, rfl⟩
  have zx0 : ∀ r ∈ x0, Zs (d + q + 4 * m + 6) (q + 3 * m + 1) r := by rw [← hx0]; exact fin_sz zes
  have nx0 : x0 ≠ [] := by
    have : T.delay ∈ x0 := by rw [← hx0, fin_mem, hes]; simp
    exact List.ne_nil_of_mem this
  have lx0 : x0.length ≤ 5 := by
    rw [← hx0]
    refine Nat.le_trans (List.length_filterMap_le _ _) ?_
    rw [hes]; exact Nat.le_refl _
  have s2 : exe (GmD k) (.asg (.nm 2) (.lc (.var 9) (.nm 9) (.ex (.tup [(.var 4), (.var 5), (.var 6), (.idx (.var 1) (.int 0)), (.call i_law_added [(.idx (.var 1) (.int 0)), (.var 7)])])) [(.cmp .ne (.var 9) (.str "endless"))])) [some (.ref s), some (tmD T), none, none, some (eD (edgT T).1), some (eD (edgT T).2.1), some (eD (edgT T).2.2), some (eD (actOf T)), none, none, none] h =
      some (.nx, [some (.ref s), some (tmD T), some (.ref h.length), none, some (eD (edgT T).1), some (eD (edgT T).2.1), some (eD (edgT T).2.2), some (eD (actOf T)), none, none, none], h ++ [x0.map frR]) := by
    have em : [eD (edgT T).1, eD (edgT T).2.1, eD (edgT T).2.2, frR T.delay, eD (eadd (.fin T.delay) (actOf T))] = es.map eD := by rw [hes]; rfl
    have l5 : ((es.map eD).length ≤ LIM) = True := by rw [hes]; simp [LIM]
    simp only [fn_G, con_G, pat_G, ev, evs, evAnd, evOr, evTests, asgT, asgTs, evIt, exe, exes, outD, startD, ob, om, g_b, b_add, b_sub, u_abs, u_int, u_intb, u_max, u_min, c_lt, c_le, c_gt, c_ge, c_eq, c_ne, eqD_int, eqD_bl, ix_0, ix_1, ix_2, fr_0, fr_1, isN_non, isN_fr, isN_e, isN_str, isN_int, isN_tup, lD_none, lD_some, oD_none, oD_some, isAbs, partR, tgS, tgSs, wipeD, List.map_cons, List.map_nil, List.length_cons, List.length_nil, List.cons_append, List.nil_append, List.append_nil, List.getElem?_cons_zero, List.getElem?_cons_succ, List.set_cons_zero, List.set_cons_succ, List.replicate_succ, List.replicate_zero, Nat.zero_add, Nat.add_sub_cancel, Nat.reduceAdd, Nat.reduceSub, Bool.not_true, Bool.not_false, Bool.false_eq_true, if_false, tm_0, ad, l5, if_true, em, it_tup, Option.isSome_some]
    generalize hf : lcL _ _ _ _ _ _ = X
    have X2 := lc_filt eD eD (fun x => !decide (x = .inf)) hf es (by simp [srcLen, it_tup]) (fun i => rfl) (fun x _ => by
      have e1 := eq_inf h x
      cases c : decide (x = .inf) with
      | true => rw [c] at e1; simp only [fn_G, con_G, pat_G, ev, evs, evAnd, evOr, evTests, asgT, asgTs, evIt, exe, exes, outD, startD, ob, om, g_b, b_add, b_sub, u_abs, u_int, u_intb, u_max, u_min, c_lt, c_le, c_gt, c_ge, c_eq, c_ne, eqD_int, eqD_bl, ix_0, ix_1, ix_2, fr_0, fr_1, isN_non, isN_fr, isN_e, isN_str, isN_int, isN_tup, lD_none, lD_some, oD_none, oD_some, isAbs, partR, tgS, tgSs, wipeD, List.map_cons, List.map_nil, List.length_cons, List.length_nil, List.cons_append, List.nil_append, List.append_nil, List.getElem?_cons_zero, List.getElem?_cons_succ, List.set_cons_zero, List.set_cons_succ, List.replicate_succ, List.replicate_zero, Nat.zero_add, Nat.add_sub_cancel, Nat.reduceAdd, Nat.reduceSub, Bool.not_true, Bool.not_false, Bool.false_eq_true, if_false, e1]
      | false => rw [c] at e1; simp only [fn_G, con_G, pat_G, ev, evs, evAnd, evOr, evTests, asgT, asgTs, evIt, exe, exes, outD, startD, ob, om, g_b, b_add, b_sub, u_abs, u_int, u_intb, u_max, u_min, c_lt, c_le, c_gt, c_ge, c_eq, c_ne, eqD_int, eqD_bl, ix_0, ix_1, ix_2, fr_0, fr_1, isN_non, isN_fr, isN_e, isN_str, isN_int, isN_tup, lD_none, lD_some, oD_none, oD_some, isAbs, partR, tgS, tgSs, wipeD, List.map_cons, List.map_nil, List.length_cons, List.length_nil, List.cons_append, List.nil_append, List.append_nil, List.getElem?_cons_zero, List.getElem?_cons_succ, List.set_cons_zero, List.set_cons_succ, List.replicate_succ, List.replicate_zero, Nat.zero_add, Nat.add_sub_cancel, Nat.reduceAdd, Nat.reduceSub, Bool.not_true, Bool.not_false, Bool.false_eq_true, if_false, e1, if_true])
    clear hf
    subst X2
    rw [fin_map, hx0]
    have l2 : ((x0.map frR).length ≤ LIM) = True := by rw [List.length_map]; exact eq_true (Nat.le_trans lx0 (by decide))
    simp only [fn_G, con_G, pat_G, ev, evs, evAnd, evOr, evTests, asgT, asgTs, evIt, exe, exes, outD, startD, ob, om, g_b, b_add, b_sub, u_abs, u_int, u_intb, u_max, u_min, c_lt, c_le, c_gt, c_ge, c_eq, c_ne, eqD_int, eqD_bl, ix_0, ix_1, ix_2, fr_0, fr_1, isN_non, isN_fr, isN_e, isN_str, isN_int, isN_tup, lD_none, lD_some, oD_none, oD_some, isAbs, partR, tgS, tgSs, wipeD, List.map_cons, List.map_nil, List.length_cons, List.length_nil, List.cons_append, List.nil_append, List.append_nil, List.getElem?_cons_zero, List.getElem?_cons_succ, List.set_cons_zero, List.set_cons_succ, List.replicate_succ, List.replicate_zero, Nat.zero_add, Nat.add_sub_cancel, Nat.reduceAdd, Nat.reduceSub, Bool.not_true, Bool.not_false, Bool.false_eq_true, if_false, l2, if_true]
  have g0 : (h ++ [x0.map frR])[h.length]? = some (x0.map frR) := get_app _ _
  have D0 : Dr s h (h ++ [x0.map frR]) := (Dr.refl H).app _
  obtain ⟨σb, hσb⟩ : ∃ σb : Option D → Option D → List (Option D), σb = fun o8 o10 => [some (.ref s), some (tmD T), some (.ref h.length), none, some (eD (edgT T).1), some (eD (edgT T).2.1), some (eD (edgT T).2.2), some (eD (actOf T)), o8, none, o10] := ⟨_, rfl⟩
  -- the iterations
  have s3 : ∃ (x1 : List Rat) (h2 : MH) (o8 o10 : Option D), exe (GmD k) (.ift (.cmp .notin (.idx (.var 1) (.int 5)) (.tup [.non, (.str "endless")])) [(.for (.nm 8) (.rng1 (.int 3)) [(.asg (.nm 10) (.call i_law_minus [(.tup [(.call i_law_next [(.var 0), (.int 5)]), (.int 1)]), (.idx (.var 1) (.int 3))])), (.expr (.app (.var 2) (.call i_law_plus [(.idx (.var 1) (.int 0)), (.call i_law_times [(.var 10), (.idx (.var 1) (.int 5))])])))])] []) [some (.ref s), some (tmD T), some (.ref h.length), none, some (eD (edgT T).1), some (eD (edgT T).2.1), some (eD (edgT T).2.2), some (eD (actOf T)), none, none, none] (h ++ [x0.map frR]) =
      some (.nx, [some (.ref s), some (tmD T), some (.ref h.length), none, some (eD (edgT T).1), some (eD (edgT T).2.1), some (eD (edgT T).2.2), some (eD (actOf T)), o8, none, o10], h2) ∧ h2[h.length]? = some (x1.map frR) ∧ Dr s h h2 ∧ (∀ r ∈ x1, Zs (d + q + 4 * m + 6) (q + 3 * m + 1) r) ∧ x1.length ≤ 8 ∧ x1 ≠ [] := by
    have nn := notin_NE (h ++ [x0.map frR]) T.len
    cases hl : T.len with
    | none =>
      rw [hl] at nn
      refine ⟨x0, _, _, _, (exe_ift_f (h1 := h ++ [x0.map frR]) ?_).trans rfl, g0, D0, zx0, by omega, nx0⟩
      have nn : cmpD .notin (h ++ [x0.map frR]) .non (.tup [.non, .str "endless"]) = some false := nn
      simp only [fn_G, con_G, pat_G, ev, evs, evAnd, evOr, evTests, asgT, asgTs, evIt, exe, exes, outD, startD, ob, om, g_b, b_add, b_sub, u_abs, u_int, u_intb, u_max, u_min, c_lt, c_le, c_gt, c_ge, c_eq, c_ne, eqD_int, eqD_bl, ix_0, ix_1, ix_2, fr_0, fr_1, isN_non, isN_fr, isN_e, isN_str, isN_int, isN_tup, lD_none, lD_some, oD_none, oD_some, isAbs, partR, tgS, tgSs, wipeD, List.map_cons, List.map_nil, List.length_cons, List.length_nil, List.cons_append, List.nil_append, List.append_nil, List.getElem?_cons_zero, List.getElem?_cons_succ, List.set_cons_zero, List.set_cons_succ, List.replicate_succ, List.replicate_zero, Nat.zero_add, Nat.add_sub_cancel, Nat.reduceAdd, Nat.reduceSub, Bool.not_true, Bool.not_false, Bool.false_eq_true, if_false, tm_5, hl, lim2, if_true, nn]
    | some e => cases e with
      | inf =>
        rw [hl] at nn
        have nn : cmpD .notin (h ++ [x0.map frR]) (eD .inf) (.tup [.non, .str "endless"]) = some false := nn
        refine ⟨x0, _, _, _, (exe_ift_f (h1 := h ++ [x0.map frR]) ?_).trans rfl, g0, D0, zx0, by omega, nx0⟩
        simp only [fn_G, con_G, pat_G, ev, evs, evAnd, evOr, evTests, asgT, asgTs, evIt, exe, exes, outD, startD, ob, om, g_b, b_add, b_sub, u_abs, u_int, u_intb, u_max, u_min, c_lt, c_le, c_gt, c_ge, c_eq, c_ne, eqD_int, eqD_bl, ix_0, ix_1, ix_2, fr_0, fr_1, isN_non, isN_fr, isN_e, isN_str, isN_int, isN_tup, lD_none, lD_some, oD_none, oD_some, isAbs, partR, tgS, tgSs, wipeD, List.map_cons, List.map_nil, List.length_cons, List.length_nil, List.cons_append, List.nil_append, List.append_nil, List.getElem?_cons_zero, List.getElem?_cons_succ, List.set_cons_zero, List.set_cons_succ, List.replicate_succ, List.replicate_zero, Nat.zero_add, Nat.add_sub_cancel, Nat.reduceAdd, Nat.reduceSub, Bool.not_true, Bool.not_false, Bool.false_eq_true, if_false, tm_5, hl, lim2, if_true, nn]
      | fin l =>
        rw [hl] at nn
        have nn : cmpD .notin (h ++ [x0.map frR]) (frR l) (.tup [.non, .str "endless"]) = some true := nn
        have zl : Sz m l := (o.len _ hl).1
        have i5 : ∀ h, idxD h (tmD T) (.int 5) = some (frR l) := fun h => by rw [tm_5, hl]; rfl
        have hc : getB (ev (GmD k) (.cmp .notin (.idx (.var 1) (.int 5)) (.tup [.non, (.str "endless")])) [some (.ref s), some (tmD T), some (.ref h.length), none, some (eD (edgT T).1), some (eD (edgT T).2.1), some (eD (edgT T).2.2), some (eD (actOf T)), none, none, none] (h ++ [x0.map frR])) = some (true, h ++ [x0.map frR]) := by
          simp only [fn_G, con_G, pat_G, ev, evs, evAnd, evOr, evTests, asgT, asgTs, evIt, exe, exes, outD, startD, ob, om, g_b, b_add, b_sub, u_abs, u_int, u_intb, u_max, u_min, c_lt, c_le, c_gt, c_ge, c_eq, c_ne, eqD_int, eqD_bl, ix_0, ix_1, ix_2, fr_0, fr_1, isN_non, isN_fr, isN_e, isN_str, isN_int, isN_tup, lD_none, lD_some, oD_none, oD_some, isAbs, partR, tgS, tgSs, wipeD, List.map_cons, List.map_nil, List.length_cons, List.length_nil, List.cons_append, List.nil_append, List.append_nil, List.getElem?_cons_zero, List.getElem?_cons_succ, List.set_cons_zero, List.set_cons_succ, List.replicate_succ, List.replicate_zero, Nat.zero_add, Nat.add_sub_cancel, Nat.reduceAdd, Nat.reduceSub, Bool.not_true, Bool.not_false, Bool.false_eq_true, if_false, i5, lim2, if_true, nn]
        have hi : evIt (GmD k) (.rng1 (.int 3)) [some (.ref s), some (tmD T), some (.ref h.length), none, some (eD (edgT T).1), some (eD (edgT T).2.1), some (eD (edgT T).2.2), some (eD (actOf T)), none, none, none] (h ++ [x0.map frR]) = some (.rng 0 3, h ++ [x0.map frR]) := by
          have r3 : okR 3 = true := by decide
          simp only [fn_G, con_G, pat_G, ev, evs, evAnd, evOr, evTests, asgT, asgTs, evIt, exe, exes, outD, startD, ob, om, g_b, b_add, b_sub, u_abs, u_int, u_intb, u_max, u_min, c_lt, c_le, c_gt, c_ge, c_eq, c_ne, eqD_int, eqD_bl, ix_0, ix_1, ix_2, fr_0, fr_1, isN_non, isN_fr, isN_e, isN_str, isN_int, isN_tup, lD_none, lD_some, oD_none, oD_some, isAbs, partR, tgS, tgSs, wipeD, List.map_cons, List.map_nil, List.length_cons, List.length_nil, List.cons_append, List.nil_append, List.append_nil, List.getElem?_cons_zero, List.getElem?_cons_succ, List.set_cons_zero, List.set_cons_succ, List.replicate_succ, List.replicate_zero, Nat.zero_add, Nat.add_sub_cancel, Nat.reduceAdd, Nat.reduceSub, Bool.not_true, Bool.not_false, Bool.false_eq_true, if_false, r3, if_true]
          rfl
        rw [exe_ift_t hc]
        have go : ∃ (x1 : List Rat) (h2 : MH) (o8 o10 : Option D), exe (GmD k) (.for (.nm 8) (.rng1 (.int 3)) [(.asg (.nm 10) (.call i_law_minus [(.tup [(.call i_law_next [(.var 0), (.int 5)]), (.int 1)]), (.idx (.var 1) (.int 3))])), (.expr (.app (.var 2) (.call i_law_plus [(.idx (.var 1) (.int 0)), (.call i_law_times [(.var 10), (.idx (.var 1) (.int 5))])])))]) [some (.ref s), some (tmD T), some (.ref h.length), none, some (eD (edgT T).1), some (eD (edgT T).2.1), some (eD (edgT T).2.2), some (eD (actOf T)), none, none, none] (h ++ [x0.map frR]) =
            some (.nx, [some (.ref s), some (tmD T), some (.ref h.length), none, some (eD (edgT T).1), some (eD (edgT T).2.1), some (eD (edgT T).2.2), some (eD (actOf T)), o8, none, o10], h2) ∧ h2[h.length]? = some (x1.map frR) ∧ Dr s h h2 ∧ (∀ r ∈ x1, Zs (d + q + 4 * m + 6) (q + 3 * m + 1) r) ∧ x1.length ≤ 8 ∧ x1 ≠ [] := by
          rw [exe_for hi]
          generalize hf : forL _ _ _ _ _ _ = X
          have X1 := for_of hf (fun i σ h' => Dr s h h' ∧ ∃ (x1 : List Rat) (o8 o10 : Option D), σ = [some (.ref s), some (tmD T), some (.ref h.length), none, some (eD (edgT T).1), some (eD (edgT T).2.1), some (eD (edgT T).2.2), some (eD (actOf T)), o8, none, o10] ∧ h'[h.length]? = some (x1.map frR) ∧ x1.length = x0.length + i ∧ x1 ≠ [] ∧ ∀ r ∈ x1, Zs (d + q + 4 * m + 6) (q + 3 * m + 1) r) 3
            ⟨D0, x0, _, _, rfl, g0, rfl, nx0, zx0⟩ (Nat.zero_le _) (by show 3 < 3 + 1 + 0; decide) (fun σ h p => rfl)
          clear hf
          obtain ⟨σ', h', e2, D2, x1, o8, o10, rfl, g1, l4, n1, zx1⟩ := X1 (by
            clear X1
            rintro i σ h3 li ⟨D3, x1, o8, o10, rfl, g1, l4, n1, zx1⟩
            obtain ⟨v, h4, e4, v0, v1, D4⟩ := r_law_next' (show 2 ≤ k by omega) D3.1 5 (by decide) (by decide)
            have zv : Zs 3 1 (v : Rat) := ⟨by rw [Rat.num_intCast]; omega, by rw [Rat.den_intCast]; decide⟩
            have e5 := r_law_minus (show 3 ≤ k by omega) (zv.sz (n := 3) (by omega) (by omega)) o.first (by omega) h4
            have z5 := zv.sub o.first.zs
            obtain ⟨w, hw⟩ : ∃ w, (v : Rat) - T.first = w := ⟨_, rfl⟩
            rw [hw] at e5 z5
            have e6 := r_law_times (show 3 ≤ k by omega) (z5.sz (n := 1010) (by omega) (by omega)) zl (by omega) h4
            have z6 := z5.mul zl.zs
            obtain ⟨u, hu⟩ : ∃ u, w * l = u := ⟨_, rfl⟩
            rw [hu] at e6 z6
            have e7 := r_law_plus (show 3 ≤ k by omega) (o.delay.sz (n := 1000) l1 l2) (z6.sz (n := 3000) (by omega) (by omega)) (by omega) h4
            have z7 := o.delay.add z6
            obtain ⟨y, hy⟩ : ∃ y, T.delay + u = y := ⟨_, rfl⟩
            rw [hy] at e7 z7
            have g4 : h4[h.length]? = some (x1.map frR) := D4.keep g1 ns
            have ap : appD h4 (.ref h.length) (frR y) = some (h4.set h.length ((x1 ++ [y]).map frR)) := by
              show (h4[h.length]?).bind _ = _
              rw [g4, ob, if_pos (by rw [List.length_map, l4]; exact Nat.le_trans (show x0.length + i ≤ 8 by omega) (by decide)), List.map_append]
              rfl
            refine ⟨.int (0 + (i : Int)), _, h4.set h.length ((x1 ++ [y]).map frR), congrArg some (if_pos li), ?_, (D3.trans D4).setNew (Nat.le_refl _) ns _, x1 ++ [y], some (.int (0 + (i : Int))), some (frR w), rfl, List.getElem?_set_self (List.getElem?_eq_some_iff.mp g4).1, by rw [List.length_append]; simp; omega, by simp, fun r hr => ?_⟩
            · simp only [fn_G, con_G, pat_G, ev, evs, evAnd, evOr, evTests, asgT, asgTs, evIt, exe, exes, outD, startD, ob, om, g_b, b_add, b_sub, u_abs, u_int, u_intb, u_max, u_min, c_lt, c_le, c_gt, c_ge, c_eq, c_ne, eqD_int, eqD_bl, ix_0, ix_1, ix_2, fr_0, fr_1, isN_non, isN_fr, isN_e, isN_str, isN_int, isN_tup, lD_none, lD_some, oD_none, oD_some, isAbs, partR, tgS, tgSs, wipeD, List.map_cons, List.map_nil, List.length_cons, List.length_nil, List.cons_append, List.nil_append, List.append_nil, List.getElem?_cons_zero, List.getElem?_cons_succ, List.set_cons_zero, List.set_cons_succ, List.replicate_succ, List.replicate_zero, Nat.zero_add, Nat.add_sub_cancel, Nat.reduceAdd, Nat.reduceSub, Bool.not_true, Bool.not_false, Bool.false_eq_true, if_false, e4, lim2, if_true, frRi, tm_3, e5, tm_0, i5, e6, e7, ap]
            · rcases List.mem_append.mp hr with hr | hr
              · exact zx1 r hr
              · cases List.mem_singleton.mp hr
                exact z7.mono (by omega) (by omega))
          subst e2
          exact ⟨x1, h', o8, o10, rfl, g1, D2, zx1, by omega, n1⟩
        obtain ⟨x1, h2, o8, o10, e1, r⟩ := go
        exact ⟨x1, h2, o8, o10, (exes_nx e1).trans rfl, r⟩
  obtain ⟨x1, h2, o8, o10, s3, g2, D2, zx1, lx1, nx1⟩ := s3
  obtain ⟨u, h3, e3, u0, u1, D3⟩ := r_law_next' (show 2 ≤ k by omega) D2.1 99 (by decide) (by decide)
  have e4 := r_law_ratio (show 2 ≤ k by omega) 1 (2 + u) h3 (by omega) (s60 (by omega))
  have z4 : Zs 1 7 (Rat.divInt 1 (2 + u)) := by
    have e : Rat.divInt 1 (2 + u) = mkRat 1 (2 + u).natAbs := by
      rw [show (2 + u) = (((2 + u).natAbs : Nat) : Int) by omega, Rat.divInt_ofNat]; rfl
    rw [e]
    exact Zs.mk (by omega) (by decide) (by omega)
  obtain ⟨y, hy⟩ : ∃ y, Rat.divInt 1 (2 + u) = y := ⟨_, rfl⟩
  rw [hy] at e4 z4
  have s4 : exe (GmD k) (.asg (.nm 3) (.call i_law_ratio [(.int 1), (.bin .add (.int 2) (.call i_law_next [(.var 0), (.int 99)]))])) [some (.ref s), some (tmD T), some (.ref h.length), none, some (eD (edgT T).1), some (eD (edgT T).2.1), some (eD (edgT T).2.2), some (eD (actOf T)), o8, none, o10] h2 =
      some (.nx, [some (.ref s), some (tmD T), some (.ref h.length), some (frR y), some (eD (edgT T).1), some (eD (edgT T).2.1), some (eD (edgT T).2.2), some (eD (actOf T)), o8, none, o10], h3) := by
    simp only [fn_G, con_G, pat_G, ev, evs, evAnd, evOr, evTests, asgT, asgTs, evIt, exe, exes, outD, startD, ob, om, g_b, b_add, b_sub, u_abs, u_int, u_intb, u_max, u_min, c_lt, c_le, c_gt, c_ge, c_eq, c_ne, eqD_int, eqD_bl, ix_0, ix_1, ix_2, fr_0, fr_1, isN_non, isN_fr, isN_e, isN_str, isN_int, isN_tup, lD_none, lD_some, oD_none, oD_some, isAbs, partR, tgS, tgSs, wipeD, List.map_cons, List.map_nil, List.length_cons, List.length_nil, List.cons_append, List.nil_append, List.append_nil, List.getElem?_cons_zero, List.getElem?_cons_succ, List.set_cons_zero, List.set_cons_succ, List.replicate_succ, List.replicate_zero, Nat.zero_add, Nat.add_sub_cancel, Nat.reduceAdd, Nat.reduceSub, Bool.not_true, Bool.not_false, Bool.false_eq_true, if_false, e3, e4]
  have g3 : h3[h.length]? = some (x1.map frR) := D3.keep g2 ns
  have l3h := (List.getElem?_eq_some_iff.mp g3).1
  obtain ⟨xp, hxp⟩ : ∃ xp, x1.map (fun r => r + y) = xp := ⟨_, rfl⟩
  obtain ⟨xm, hxm⟩ : ∃ xm, x1.map (fun r => r - y) = xm := ⟨_, rfl⟩
  have lp : xp.length = x1.length := by rw [← hxp, List.length_map]
  have lm : xm.length = x1.length := by rw [← hxm, List.length_map]
  -- beside them
  have s5 : ∃ h4, exe (GmD k) (.asg (.nm 2) (.bin .add (.bin .add (.var 2) (.lc (.call i_law_plus [(.var 9), (.var 3)]) (.nm 9) (.ex (.var 2)) [])) (.lc (.call i_law_minus [(.var 9), (.var 3)]) (.nm 9) (.ex (.var 2)) []))) [some (.ref s), some (tmD T), some (.ref h.length), some (frR y), some (eD (edgT T).1), some (eD (edgT T).2.1), some (eD (edgT T).2.2), some (eD (actOf T)), o8, none, o10] h3 =
      some (.nx, [some (.ref s), some (tmD T), some (.ref (h3.length + 3)), some (frR y), some (eD (edgT T).1), some (eD (edgT T).2.1), some (eD (edgT T).2.2), some (eD (actOf T)), o8, none, o10], h4) ∧ h4 = h3 ++ [xp.map frR, (x1 ++ xp).map frR, xm.map frR, (x1 ++ xp ++ xm).map frR] := by
    refine ⟨_, ?_, rfl⟩
    have it3 : itemsD h3 (.ref h.length) = some (x1.map frR) := g3
    simp only [fn_G, con_G, pat_G, ev, evs, evAnd, evOr, evTests, asgT, asgTs, evIt, exe, exes, outD, startD, ob, om, g_b, b_add, b_sub, u_abs, u_int, u_intb, u_max, u_min, c_lt, c_le, c_gt, c_ge, c_eq, c_ne, eqD_int, eqD_bl, ix_0, ix_1, ix_2, fr_0, fr_1, isN_non, isN_fr, isN_e, isN_str, isN_int, isN_tup, lD_none, lD_some, oD_none, oD_some, isAbs, partR, tgS, tgSs, wipeD, List.map_cons, List.map_nil, List.length_cons, List.length_nil, List.cons_append, List.nil_append, List.append_nil, List.getElem?_cons_zero, List.getElem?_cons_succ, List.set_cons_zero, List.set_cons_succ, List.replicate_succ, List.replicate_zero, Nat.zero_add, Nat.add_sub_cancel, Nat.reduceAdd, Nat.reduceSub, Bool.not_true, Bool.not_false, Bool.false_eq_true, if_false, it3, Option.isSome_some, if_true]
    generalize hf : lcL _ _ _ _ _ _ = X
    have X2 := lc_pure frR (fun r => frR (r + y)) hf x1 (by show _ < ((itemsD _ _).getD []).length + 1; rw [it3]; simp) (fun i => by show (itemsD _ _).map _ = _; rw [it3, om]) (fun r hr => by
      have := r_law_plus (show 3 ≤ k by omega) ((zx1 r hr).sz (n := 6010) (by omega) (by omega)) (z4.sz (n := 7) (by omega) (by omega)) (by omega) h3
      simp only [fn_G, con_G, pat_G, ev, evs, evAnd, evOr, evTests, asgT, asgTs, evIt, exe, exes, outD, startD, ob, om, g_b, b_add, b_sub, u_abs, u_int, u_intb, u_max, u_min, c_lt, c_le, c_gt, c_ge, c_eq, c_ne, eqD_int, eqD_bl, ix_0, ix_1, ix_2, fr_0, fr_1, isN_non, isN_fr, isN_e, isN_str, isN_int, isN_tup, lD_none, lD_some, oD_none, oD_some, isAbs, partR, tgS, tgSs, wipeD, List.map_cons, List.map_nil, List.length_cons, List.length_nil, List.cons_append, List.nil_append, List.append_nil, List.getElem?_cons_zero, List.getElem?_cons_succ, List.set_cons_zero, List.set_cons_succ, List.replicate_succ, List.replicate_zero, Nat.zero_add, Nat.add_sub_cancel, Nat.reduceAdd, Nat.reduceSub, Bool.not_true, Bool.not_false, Bool.false_eq_true, if_false, this])
    clear hf
    subst X2
    have ep : x1.map (fun r => frR (r + y)) = xp.map frR := by rw [← hxp, List.map_map]; rfl
    have l2 : ((xp.map frR).length ≤ LIM) = True := by rw [List.length_map, lp]; exact eq_true (Nat.le_trans lx1 (by decide))
    have g4 : (h3 ++ [xp.map frR])[h.length]? = some (x1.map frR) := by rw [List.getElem?_append_left l3h]; exact g3
    have g5 : (h3 ++ [xp.map frR])[h3.length]? = some (xp.map frR) := get_app _ _
    have ea := b_addl g4 g5 (by rw [List.length_map, List.length_map, lp]; exact Nat.le_trans (show x1.length + x1.length ≤ 16 by omega) (by decide))
    rw [← List.map_append, List.append_assoc] at ea
    have ea : binD .add (.ref h.length) (.ref h3.length) (h3 ++ [xp.map frR]) = some (.ref (h3.length + 1), h3 ++ [xp.map frR, (x1 ++ xp).map frR]) := by rw [ea, List.length_append]; rfl
    have it4 : itemsD (h3 ++ [xp.map frR, (x1 ++ xp).map frR]) (.ref h.length) = some (x1.map frR) := by
      show (h3 ++ [xp.map frR, (x1 ++ xp).map frR])[h.length]? = _
      rw [List.getElem?_append_left l3h]; exact g3
    simp only [fn_G, con_G, pat_G, ev, evs, evAnd, evOr, evTests, asgT, asgTs, evIt, exe, exes, outD, startD, ob, om, g_b, b_add, b_sub, u_abs, u_int, u_intb, u_max, u_min, c_lt, c_le, c_gt, c_ge, c_eq, c_ne, eqD_int, eqD_bl, ix_0, ix_1, ix_2, fr_0, fr_1, isN_non, isN_fr, isN_e, isN_str, isN_int, isN_tup, lD_none, lD_some, oD_none, oD_some, isAbs, partR, tgS, tgSs, wipeD, List.map_cons, List.map_nil, List.length_cons, List.length_nil, List.cons_append, List.nil_append, List.append_nil, List.getElem?_cons_zero, List.getElem?_cons_succ, List.set_cons_zero, List.set_cons_succ, List.replicate_succ, List.replicate_zero, Nat.zero_add, Nat.add_sub_cancel, Nat.reduceAdd, Nat.reduceSub, Bool.not_true, Bool.not_false, Bool.false_eq_true, if_false, ep, l2, if_true, ea, it4, Option.isSome_some]
    generalize hf : lcL _ _ _ _ _ _ = X
    have X2 := lc_pure frR (fun r => frR (r - y)) hf x1 (by show _ < ((itemsD _ _).getD []).length + 1; rw [it4]; simp) (fun i => by show (itemsD _ _).map _ = _; rw [it4, om]) (fun r hr => by
      have := r_law_minus (show 3 ≤ k by omega) ((zx1 r hr).sz (n := 6010) (by omega) (by omega)) (z4.sz (n := 7) (by omega) (by omega)) (by omega) (h3 ++ [xp.map frR, (x1 ++ xp).map frR])
      simp only [fn_G, con_G, pat_G, ev, evs, evAnd, evOr, evTests, asgT, asgTs, evIt, exe, exes, outD, startD, ob, om, g_b, b_add, b_sub, u_abs, u_int, u_intb, u_max, u_min, c_lt, c_le, c_gt, c_ge, c_eq, c_ne, eqD_int, eqD_bl, ix_0, ix_1, ix_2, fr_0, fr_1, isN_non, isN_fr, isN_e, isN_str, isN_int, isN_tup, lD_none, lD_some, oD_none, oD_some, isAbs, partR, tgS, tgSs, wipeD, List.map_cons, List.map_nil, List.length_cons, List.length_nil, List.cons_append, List.nil_append, List.append_nil, List.getElem?_cons_zero, List.getElem?_cons_succ, List.set_cons_zero, List.set_cons_succ, List.replicate_succ, List.replicate_zero, Nat.zero_add, Nat.add_sub_cancel, Nat.reduceAdd, Nat.reduceSub, Bool.not_true, Bool.not_false, Bool.false_eq_true, if_false, this])
    clear hf
    subst X2
    have em : x1.map (fun r => frR (r - y)) = xm.map frR := by rw [← hxm, List.map_map]; rfl
    have l6 : ((xm.map frR).length ≤ LIM) = True := by rw [List.length_map, lm]; exact eq_true (Nat.le_trans lx1 (by decide))
    have lh : (h3 ++ [xp.map frR, (x1 ++ xp).map frR]).length = h3.length + 2 := by rw [List.length_append]; rfl
    have g6 : (h3 ++ [xp.map frR, (x1 ++ xp).map frR, xm.map frR])[h3.length + 1]? = some ((x1 ++ xp).map frR) := by
      rw [List.getElem?_append_right (by omega), show h3.length + 1 - h3.length = 1 by omega]; rfl
    have g7 : (h3 ++ [xp.map frR, (x1 ++ xp).map frR, xm.map frR])[h3.length + 2]? = some (xm.map frR) := by
      rw [List.getElem?_append_right (by omega), show h3.length + 2 - h3.length = 2 by omega]; rfl
    have eb := b_addl g6 g7 (by rw [List.length_map, List.length_map, lm, List.length_append, lp]; exact Nat.le_trans (show x1.length + x1.length + x1.length ≤ 24 by omega) (by decide))
    rw [← List.map_append, List.append_assoc] at eb
    have eb : binD .add (.ref (h3.length + 1)) (.ref (h3.length + 2)) (h3 ++ [xp.map frR, (x1 ++ xp).map frR, xm.map frR]) = some (.ref (h3.length + 3), h3 ++ [xp.map frR, (x1 ++ xp).map frR, xm.map frR, (x1 ++ xp ++ xm).map frR]) := by rw [eb, List.length_append]; rfl
    have as3 : h3 ++ [xp.map frR, (x1 ++ xp).map frR] ++ [xm.map frR] = h3 ++ [xp.map frR, (x1 ++ xp).map frR, xm.map frR] := by rw [List.append_assoc]; rfl
    simp only [fn_G, con_G, pat_G, ev, evs, evAnd, evOr, evTests, asgT, asgTs, evIt, exe, exes, outD, startD, ob, om, g_b, b_add, b_sub, u_abs, u_int, u_intb, u_max, u_min, c_lt, c_le, c_gt, c_ge, c_eq, c_ne, eqD_int, eqD_bl, ix_0, ix_1, ix_2, fr_0, fr_1, isN_non, isN_fr, isN_e, isN_str, isN_int, isN_tup, lD_none, lD_some, oD_none, oD_some, isAbs, partR, tgS, tgSs, wipeD, List.map_cons, List.map_nil, List.length_cons, List.length_nil, List.cons_append, List.nil_append, List.append_nil, List.getElem?_cons_zero, List.getElem?_cons_succ, List.set_cons_zero, List.set_cons_succ, List.replicate_succ, List.replicate_zero, Nat.zero_add, Nat.add_sub_cancel, Nat.reduceAdd, Nat.reduceSub, Bool.not_true, Bool.not_false, Bool.false_eq_true, if_false, em, l6, if_true, lh, as3, eb]
  obtain ⟨h4, s5, eh4⟩ := s5
  obtain ⟨x2, hx2⟩ : ∃ x2, x1 ++ xp ++ xm = x2 := ⟨_, rfl⟩
  rw [hx2] at eh4
  have zx2 : ∀ r ∈ x2, MomZ d q m r := by
    intro r hr
    rw [← hx2] at hr
    rcases List.mem_append.mp hr with hr | hr
    · rcases List.mem_append.mp hr with hr | hr
      · exact (zx1 r hr).mono (by omega) (by omega)
      · rw [← hxp] at hr
        obtain ⟨r', hr', rfl⟩ := List.mem_map.mp hr
        exact ((zx1 r' hr').add z4).mono (by omega) (by omega)
    · rw [← hxm] at hr
      obtain ⟨r', hr', rfl⟩ := List.mem_map.mp hr
      exact ((zx1 r' hr').sub z4).mono (by omega) (by omega)
  have lx2 : x2.length ≤ 24 := by rw [← hx2, List.length_append, List.length_append, lp, lm]; omega
  have D4 : Dr s h h4 := by rw [eh4]; exact (D2.trans D3).app _
  have g4 : h4[h3.length + 3]? = some (x2.map frR) := by rw [eh4, List.getElem?_append_right (by omega), show h3.length + 3 - h3.length = 3 by omega]; rfl
  have l4h := (List.getElem?_eq_some_iff.mp g4).1
  have n4 : h3.length + 3 ≠ s := by have := (D2.trans D3).1.lt; omega
  have s6 : ∃ (xs : List Rat) (n : Nat) (h' : MH), exe (GmD k) (.ret (.bin .add (.bin .add (.var 2) (.lst [(.tup [(.int 0), (.int 1)])])) (.lc (.call i_law_any_part [(.var 0)]) (.nm 8) (.rng1 (.int 4)) []))) [some (.ref s), some (tmD T), some (.ref (h3.length + 3)), some (frR y), some (eD (edgT T).1), some (eD (edgT T).2.1), some (eD (edgT T).2.2), some (eD (actOf T)), o8, none, o10] h4 =
      some (.rt (.ref n), [some (.ref s), some (tmD T), some (.ref (h3.length + 3)), some (frR y), some (eD (edgT T).1), some (eD (edgT T).2.1), some (eD (edgT T).2.2), some (eD (actOf T)), o8, none, o10], h') ∧ h'[n]? = some (xs.map frR) ∧ Dr s h h' ∧ (∀ x ∈ xs, MomZ d q m x) ∧ n ≠ s ∧ xs.length ≤ 40 ∧ xs ≠ [] := by
    have g5 : (h4 ++ [[frR 0]])[h3.length + 3]? = some (x2.map frR) := by rw [List.getElem?_append_left l4h]; exact g4
    have g6 : (h4 ++ [[frR 0]])[h4.length]? = some ([0].map frR) := get_app _ _
    have ea := b_addl g5 g6 (by rw [List.length_map]; exact Nat.le_trans (show x2.length + 1 ≤ 25 by omega) (by decide))
    rw [← List.map_append] at ea
    obtain ⟨h5, hh5⟩ : ∃ h5, h4 ++ [[frR 0]] ++ [(x2 ++ [0]).map frR] = h5 := ⟨_, rfl⟩
    rw [hh5] at ea
    have D5 : Dr s h h5 := by rw [← hh5]; exact (D4.app _).app _
    have g7 : h5[(h4 ++ [[frR 0]]).length]? = some ((x2 ++ [0]).map frR) := by rw [← hh5]; exact get_app _ _
    have l7 := (List.getElem?_eq_some_iff.mp g7).1
    have n5 : (h4 ++ [[frR 0]]).length ≠ s := by have := D4.1.lt; rw [List.length_append]; omega
    have r4 : okR 4 = true := by decide
    have f0 : D.tup [.int 0, .int 1] = frR 0 := rfl
    simp only [fn_G, con_G, pat_G, ev, evs, evAnd, evOr, evTests, asgT, asgTs, evIt, exe, exes, outD, startD, ob, om, g_b, b_add, b_sub, u_abs, u_int, u_intb, u_max, u_min, c_lt, c_le, c_gt, c_ge, c_eq, c_ne, eqD_int, eqD_bl, ix_0, ix_1, ix_2, fr_0, fr_1, isN_non, isN_fr, isN_e, isN_str, isN_int, isN_tup, lD_none, lD_some, oD_none, oD_some, isAbs, partR, tgS, tgSs, wipeD, List.map_cons, List.map_nil, List.length_cons, List.length_nil, List.cons_append, List.nil_append, List.append_nil, List.getElem?_cons_zero, List.getElem?_cons_succ, List.set_cons_zero, List.set_cons_succ, List.replicate_succ, List.replicate_zero, Nat.zero_add, Nat.add_sub_cancel, Nat.reduceAdd, Nat.reduceSub, Bool.not_true, Bool.not_false, Bool.false_eq_true, if_false, lim2, lim1, if_true, f0, ea, r4]
    generalize hf : lcL _ _ _ _ _ _ = X
    have X1 := lc_of hf (fun i ys h' => Dr s h5 h' ∧ ∃ zs : List Rat, ys = zs.map frR ∧ zs.length = i ∧ ∀ r ∈ zs, Sz 31 r) 4 ⟨Dr.refl D5.1, [], rfl, rfl, fun r hr => by cases hr⟩ (Nat.zero_le _) (by show 4 < (4 : Int).toNat + 1 + 0; decide) (fun ys h p => rfl)
    clear hf
    obtain ⟨ys, h6, e6, D6, zs, rfl, lz, zz⟩ := X1 (by
      clear X1
      rintro i ys h' li ⟨D6, zs, rfl, lz, zz⟩
      obtain ⟨r, h7, e7, D7, z7⟩ := r_law_any (show 4 ≤ k by omega) D6.1
      refine ⟨.int (0 + (i : Int)), frR r, h7, congrArg some (if_pos li), ?_, D6.trans D7, zs ++ [r], by rw [List.map_append]; rfl, by rw [List.length_append, lz]; rfl, fun x hx => ?_⟩
      · simp only [fn_G, con_G, pat_G, ev, evs, evAnd, evOr, evTests, asgT, asgTs, evIt, exe, exes, outD, startD, ob, om, g_b, b_add, b_sub, u_abs, u_int, u_intb, u_max, u_min, c_lt, c_le, c_gt, c_ge, c_eq, c_ne, eqD_int, eqD_bl, ix_0, ix_1, ix_2, fr_0, fr_1, isN_non, isN_fr, isN_e, isN_str, isN_int, isN_tup, lD_none, lD_some, oD_none, oD_some, isAbs, partR, tgS, tgSs, wipeD, List.map_cons, List.map_nil, List.length_cons, List.length_nil, List.cons_append, List.nil_append, List.append_nil, List.getElem?_cons_zero, List.getElem?_cons_succ, List.set_cons_zero, List.set_cons_succ, List.replicate_succ, List.replicate_zero, Nat.zero_add, Nat.add_sub_cancel, Nat.reduceAdd, Nat.reduceSub, Bool.not_true, Bool.not_false, Bool.false_eq_true, if_false, e7]
      · rcases List.mem_append.mp hx with hx | hx
        · exact zz x hx
        · cases List.mem_singleton.mp hx; exact z7)
    subst e6
    have l8 : ((zs.map frR).length ≤ LIM) = True := by rw [List.length_map, lz]; simp [LIM]
    have g8 : (h6 ++ [zs.map frR])[(h4 ++ [[frR 0]]).length]? = some ((x2 ++ [0]).map frR) := by
      have := D6.keep g7 n5
      rw [List.getElem?_append_left (List.getElem?_eq_some_iff.mp this).1]; exact this
    have g9 : (h6 ++ [zs.map frR])[h6.length]? = some (zs.map frR) := get_app _ _
    have eb := b_addl g8 g9 (by rw [List.length_map, List.length_map, lz, List.length_append]; exact Nat.le_trans (show x2.length + 1 + 4 ≤ 40 by omega) (by decide))
    rw [← List.map_append] at eb
    simp only [fn_G, con_G, pat_G, ev, evs, evAnd, evOr, evTests, asgT, asgTs, evIt, exe, exes, outD, startD, ob, om, g_b, b_add, b_sub, u_abs, u_int, u_intb, u_max, u_min, c_lt, c_le, c_gt, c_ge, c_eq, c_ne, eqD_int, eqD_bl, ix_0, ix_1, ix_2, fr_0, fr_1, isN_non, isN_fr, isN_e, isN_str, isN_int, isN_tup, lD_none, lD_some, oD_none, oD_some, isAbs, partR, tgS, tgSs, wipeD, List.map_cons, List.map_nil, List.length_cons, List.length_nil, List.cons_append, List.nil_append, List.append_nil, List.getElem?_cons_zero, List.getElem?_cons_succ, List.set_cons_zero, List.set_cons_succ, List.replicate_succ, List.replicate_zero, Nat.zero_add, Nat.add_sub_cancel, Nat.reduceAdd, Nat.reduceSub, Bool.not_true, Bool.not_false, Bool.false_eq_true, if_false, l8, if_true, eb]
    refine ⟨x2 ++ [0] ++ zs, _, _, rfl, get_app _ _, ((D5.trans D6).app _).app _, fun x hx => ?_, ?_, ?_, by simp⟩
    · rcases List.mem_append.mp hx with hx | hx
      · rcases List.mem_append.mp hx with hx | hx
        · exact zx2 x hx
        · cases List.mem_singleton.mp hx
          exact Zs.mono (show Zs 1 1 (0 : Rat) from Sz0) (by omega) (by omega)
      · exact (zz x hx).zs.mono (by omega) (by omega)
    · have := (D5.trans D6).1.lt
      rw [List.length_append]; omega
    · rw [List.length_append, List.length_append, lz]
      simp
      omega
  obtain ⟨xs, n, h', s6, r⟩ := s6
  exact ⟨xs, n, h', outD_rt ((exes_nx s1).trans ((exes_nx s2).trans ((exes_nx s3).trans ((exes_nx s4).trans ((exes_nx s5).trans (exes_rt s6)))))), r⟩

/-! ### the law: what a timing tells -/
theorem fw_self (f : Fw) (h : MH) : cmpD .notin h (.str (fw f)) (.tup [.str (fw f)]) = some false := by
  show (inP (.str (fw f)) (.tuple [.str (fw f)])).map (!·) = _
  cases f <;> decide +kernel
theorem fw_nback (f : Fw) (h : MH) : cmpD .notin h (.str (fw f)) (.tup [.str "backwards", .str "both"]) = some (!fBack f) := by
  have := fw_back f h
  show (inD h _ _).map (!·) = _
  rw [show inD h (.str (fw f)) (.tup [.str "backwards", .str "both"]) = some (fBack f) from this]; rfl
theorem fw_nforw (f : Fw) (h : MH) : cmpD .notin h (.str (fw f)) (.tup [.str "forwards", .str "both"]) = some (!fForw f) := by
  have := fw_forw f h
  show (inD h _ _).map (!·) = _
  rw [show inD h (.str (fw f)) (.tup [.str "forwards", .str "both"]) = some (fForw f) from this]; rfl
theorem fw_nnil (f : Fw) (h : MH) : cmpD .notin h (.str (fw f)) (.tup []) = some true := by
  show (inP (.str (fw f)) (.tuple [])).map (!·) = _
  cases f <;> decide +kernel
theorem mx0_l (x : Rat) : emax (.fin 0) (.fin x) = .fin (mx0 x) := by rw [emax_comm]; exact mx0_e x
theorem str_if (a b : Str) : (if a = b then (true : Bool) else false) = (a == b) := by
  by_cases h : a = b
  · subst h; simp
  · simp [h]
theorem in_N0 (h : MH) (o : Option EQ) : cmpD .isin h (lD o) (.tup [.non, frR 0]) = some (decide (o.getD (.fin 0) = .fin 0)) := by
  have s2 : SeqAt.shaped (.tuple [.none, pf 0]) = true := by decide +kernel
  cases o with
  | none =>
    show inP .none (.tuple [.none, pf 0]) = _
    decide +kernel
  | some e =>
    have pe := pd_e h e
    have s1 := shaped_e e
    show (pdT h (eD e)).bind (fun a => inP a (.tuple [.none, pf 0])) = _
    rw [pe, ob]
    show (if (SeqAt.shaped (eP e) && SeqAt.shaped (.tuple [.none, pf 0])) = true then some (PyData.eqv .none (eP e) || (PyData.eqv (pf 0) (eP e) || false)) else none) = _
    rw [s1, s2, if_pos (by rfl), show PyData.eqv (pf 0) (eP e) = decide (EQ.fin 0 = e) from eqv_e (.fin 0) e]
    have n : PyData.eqv .none (eP e) = false := by cases e <;> (unfold eP; try unfold pf) <;> simp [PyData.eqv]
    rw [n, Bool.false_or, Bool.or_false]
    congr 1
    exact decide_eq_decide.mpr ⟨fun z => z.symm, fun z => z.symm⟩
theorem r_law_overall {K : Nat} (hK : 5 ≤ K) {d q m pa qa : Nat} {T : Tm} (o : TmZ d q m T) (m0 : 0 < m) (l3 : m ≤ 1000) {a : Rat} (za : Zs pa qa a) (l4 : pa ≤ 6000) (l5 : qa ≤ 6000) (p : Ph) (h : MH) :
    runD K i_law_overall [tmD T, .str (ph p), frR a] h = some (eD (ovr T p a), h) := by
  obtain ⟨k, rfl⟩ : ∃ k, K = k + 1 := ⟨K - 1, by omega⟩
  rw [run_law_overall _ _ _ rfl]
  have zl := o.lenOf m0
  have lim2 : (0 + 1 + 1 ≤ LIM) = True := by simp [LIM]
  have f0 : D.tup [.int 0, .int 1] = frR 0 := rfl
  have p2 : eqD h (.str (ph p)) (.str "before") = some (decide (p = .before)) := ph_eq p .before h
  have n0 := in_N0 h T.len
  have ad := r_law_added (show 4 ≤ k by omega) (a := .fin T.first) (b := T.many) (n := m) (m := m) o.first o.many (by omega) h
  have ad : runD k i_law_added [frR T.first, eD T.many] h = some (eD (eadd (.fin T.first) T.many), h) := ad
  have fe : frR T.first = eD (.fin T.first) := rfl
  have le : lenOf T = T.len.getD (.fin 0) := rfl
  unfold ovr
  rw [le] at zl ⊢
  by_cases c : T.len.getD (.fin 0) = .fin 0
  · rw [decide_eq_true c] at n0
    rw [c]
    dsimp only
    rw [if_pos rfl]
    by_cases c2 : p = .before
    · rw [if_pos c2]
      rw [decide_eq_true c2] at p2
      simp only [b_law_overall, fn_G, con_G, pat_G, ev, evs, evAnd, evOr, evTests, asgT, asgTs, evIt, exe, exes, outD, startD, ob, om, g_b, b_add, b_sub, u_abs, u_int, u_intb, u_max, u_min, c_lt, c_le, c_gt, c_ge, c_eq, c_ne, eqD_int, eqD_bl, ix_0, ix_1, ix_2, fr_0, fr_1, isN_non, isN_fr, isN_e, isN_str, isN_int, isN_tup, lD_none, lD_some, oD_none, oD_some, isAbs, partR, tgS, tgSs, wipeD, List.map_cons, List.map_nil, List.length_cons, List.length_nil, List.cons_append, List.nil_append, List.append_nil, List.getElem?_cons_zero, List.getElem?_cons_succ, List.set_cons_zero, List.set_cons_succ, List.replicate_succ, List.replicate_zero, Nat.zero_add, Nat.add_sub_cancel, Nat.reduceAdd, Nat.reduceSub, Bool.not_true, Bool.not_false, Bool.false_eq_true, if_false, tm_5, lim2, if_true, f0, n0, p2, tm_3]
      rfl
    · rw [if_neg c2]
      rw [decide_eq_false c2] at p2
      simp only [b_law_overall, fn_G, con_G, pat_G, ev, evs, evAnd, evOr, evTests, asgT, asgTs, evIt, exe, exes, outD, startD, ob, om, g_b, b_add, b_sub, u_abs, u_int, u_intb, u_max, u_min, c_lt, c_le, c_gt, c_ge, c_eq, c_ne, eqD_int, eqD_bl, ix_0, ix_1, ix_2, fr_0, fr_1, isN_non, isN_fr, isN_e, isN_str, isN_int, isN_tup, lD_none, lD_some, oD_none, oD_some, isAbs, partR, tgS, tgSs, wipeD, List.map_cons, List.map_nil, List.length_cons, List.length_nil, List.cons_append, List.nil_append, List.append_nil, List.getElem?_cons_zero, List.getElem?_cons_succ, List.set_cons_zero, List.set_cons_succ, List.replicate_succ, List.replicate_zero, Nat.zero_add, Nat.add_sub_cancel, Nat.reduceAdd, Nat.reduceSub, Bool.not_true, Bool.not_false, Bool.false_eq_true, if_false, tm_5, lim2, if_true, f0, n0, p2, tm_3, tm_4, ad]
  · rw [decide_eq_false c] at n0
    cases hl : T.len with
    | none => rw [hl] at c; exact absurd rfl c
    | some e =>
      rw [hl] at n0 zl c
      have n0 : cmpD .isin h (eD e) (.tup [.non, frR 0]) = some false := n0
      have ei := eq_inf h e
      cases e with
      | inf =>
        rw [decide_eq_true rfl] at ei
        simp only [b_law_overall, fn_G, con_G, pat_G, ev, evs, evAnd, evOr, evTests, asgT, asgTs, evIt, exe, exes, outD, startD, ob, om, g_b, b_add, b_sub, u_abs, u_int, u_intb, u_max, u_min, c_lt, c_le, c_gt, c_ge, c_eq, c_ne, eqD_int, eqD_bl, ix_0, ix_1, ix_2, fr_0, fr_1, isN_non, isN_fr, isN_e, isN_str, isN_int, isN_tup, lD_none, lD_some, oD_none, oD_some, isAbs, partR, tgS, tgSs, wipeD, List.map_cons, List.map_nil, List.length_cons, List.length_nil, List.cons_append, List.nil_append, List.append_nil, List.getElem?_cons_zero, List.getElem?_cons_succ, List.set_cons_zero, List.set_cons_succ, List.replicate_succ, List.replicate_zero, Nat.zero_add, Nat.add_sub_cancel, Nat.reduceAdd, Nat.reduceSub, Bool.not_true, Bool.not_false, Bool.false_eq_true, if_false, tm_5, hl, lim2, if_true, f0, n0, ei, tm_3]
        rfl
      | fin l =>
        have l0 : l ≠ 0 := by intro z; subst z; exact c rfl
        rw [decide_eq_false (by intro z; cases z)] at ei
        have zl' : Sz m l := zl
        have zq := za.div zl'.zs l0
        have qu := r_law_over (show 3 ≤ k by omega) (za.sz (n := 6000) l4 l5) zl' (by omega) l0 h
        have pl := r_law_plus (show 3 ≤ k by omega) o.first (zq.sz (n := 7000) (by omega) (by omega)) (by omega) h
        have n0 : cmpD .isin h (frR l) (.tup [.non, frR 0]) = some false := n0
        have ei : eqD h (frR l) (.str "endless") = some false := ei
        simp only [b_law_overall, fn_G, con_G, pat_G, ev, evs, evAnd, evOr, evTests, asgT, asgTs, evIt, exe, exes, outD, startD, ob, om, g_b, b_add, b_sub, u_abs, u_int, u_intb, u_max, u_min, c_lt, c_le, c_gt, c_ge, c_eq, c_ne, eqD_int, eqD_bl, ix_0, ix_1, ix_2, fr_0, fr_1, isN_non, isN_fr, isN_e, isN_str, isN_int, isN_tup, lD_none, lD_some, oD_none, oD_some, isAbs, partR, tgS, tgSs, wipeD, List.map_cons, List.map_nil, List.length_cons, List.length_nil, List.cons_append, List.nil_append, List.append_nil, List.getElem?_cons_zero, List.getElem?_cons_succ, List.set_cons_zero, List.set_cons_succ, List.replicate_succ, List.replicate_zero, Nat.zero_add, Nat.add_sub_cancel, Nat.reduceAdd, Nat.reduceSub, Bool.not_true, Bool.not_false, Bool.false_eq_true, if_false, tm_5, hl, eDf, lim2, if_true, f0, n0, ei, tm_3, qu, pl]
        show _ = some (eD (if l = 0 then _ else _), h)
        rw [if_neg l0]
        rfl
theorem r_law_simple {K : Nat} (hK : 6 ≤ K) {d q m pz qz : Nat} {T : Tm} (o : TmZ d q m T) (m0 : 0 < m) (l1 : d ≤ 1000) (l2 : q ≤ 1000) (l3 : m ≤ 1000) (p : Ph) (a : Rat) {ov : EQ} (zo : ZsE pz qz ov) (l4 : qz ≤ 8000) (h : MH) :
    runD K i_law_simple [tmD T, .str (ph p), frR a, eD ov] h = some (frR (sml T p a ov), h) := by
  obtain ⟨k, rfl⟩ : ∃ k, K = k + 1 := ⟨K - 1, by omega⟩
  rw [run_law_simple _ _ _ rfl]
  have lim2 : (0 + 1 + 1 ≤ LIM) = True := by simp [LIM]
  have f0 : D.tup [.int 0, .int 1] = frR 0 := rfl
  have f1 : D.tup [.int 1, .int 1] = frR 1 := rfl
  have al := r_law_ends (show 5 ≤ k by omega) (o.ok l1 l2 l3) (by decide) (Nat.le_refl _) h
  have i3 : idxD h (.tup [eD (edgT T).1, eD (edgT T).2.1, eD (edgT T).2.2, eD (actOf T)]) (.int 3) = some (eD (actOf T)) := ix_n (i := 3) rfl
  have pin := ph_in p h
  have e4 := eq_frE h a (actOf T)
  have e5 := eqD_e h T.many (.fin 0)
  have e5 : eqD h (eD T.many) (frR 0) = some (decide (T.many = .fin 0)) := e5
  have e3 := eqD_fr h (prt T ov) 0
  -- the part
  have key : ∀ (r : Rat), r.den < 2 ^ 8000 → runD k i_law_ratio [.int (r.num % r.den), .int r.den] h = some (frR (frc r), h) := by
    intro r hr
    have := r_law_ratio (show 2 ≤ k by omega) (r.num % r.den) r.den h (by have := r.den_nz; omega) (Nat.lt_of_lt_of_le hr (Nat.pow_le_pow_right (by decide) (by decide)))
    rw [Rat.divInt_ofNat] at this
    exact this
  have md : ∀ r : Rat, binD .mod (.int r.num) (.int r.den) h = some (.int (r.num % r.den), h) := fun r => b_mod h (by have := r.den_pos; omega)
  have s1 : ∃ r : Rat, exe (GmD k) (.asg (.nm 4) (.ife (.cmp .eq (.var 3) (.str "endless")) (.idx (.var 0) (.int 3)) (.var 3))) (startD 6 [tmD T, .str (ph p), frR a, eD ov]) h = some (.nx, [some (tmD T), some (.str (ph p)), some (frR a), some (eD ov), some (frR r), none], h) ∧ prt T ov = frc r ∧ r.den < 2 ^ 8000 := by
    have ei := eq_inf h ov
    cases ov with
    | inf =>
      rw [decide_eq_true rfl] at ei
      refine ⟨T.first, ?_, rfl, Nat.lt_of_lt_of_le o.first.2 (Nat.pow_le_pow_right (by decide) (by omega))⟩
      simp only [fn_G, con_G, pat_G, ev, evs, evAnd, evOr, evTests, asgT, asgTs, evIt, exe, exes, outD, startD, ob, om, g_b, b_add, b_sub, u_abs, u_int, u_intb, u_max, u_min, c_lt, c_le, c_gt, c_ge, c_eq, c_ne, eqD_int, eqD_bl, ix_0, ix_1, ix_2, fr_0, fr_1, isN_non, isN_fr, isN_e, isN_str, isN_int, isN_tup, lD_none, lD_some, oD_none, oD_some, isAbs, partR, tgS, tgSs, wipeD, List.map_cons, List.map_nil, List.length_cons, List.length_nil, List.cons_append, List.nil_append, List.append_nil, List.getElem?_cons_zero, List.getElem?_cons_succ, List.set_cons_zero, List.set_cons_succ, List.replicate_succ, List.replicate_zero, Nat.zero_add, Nat.add_sub_cancel, Nat.reduceAdd, Nat.reduceSub, Bool.not_true, Bool.not_false, Bool.false_eq_true, if_false, ei, tm_3]
    | fin r =>
      rw [decide_eq_false (by intro z; cases z)] at ei
      have ei : eqD h (frR r) (.str "endless") = some false := ei
      refine ⟨r, ?_, rfl, ?_⟩
      · simp only [fn_G, con_G, pat_G, ev, evs, evAnd, evOr, evTests, asgT, asgTs, evIt, exe, exes, outD, startD, ob, om, g_b, b_add, b_sub, u_abs, u_int, u_intb, u_max, u_min, c_lt, c_le, c_gt, c_ge, c_eq, c_ne, eqD_int, eqD_bl, ix_0, ix_1, ix_2, fr_0, fr_1, isN_non, isN_fr, isN_e, isN_str, isN_int, isN_tup, lD_none, lD_some, oD_none, oD_some, isAbs, partR, tgS, tgSs, wipeD, List.map_cons, List.map_nil, List.length_cons, List.length_nil, List.cons_append, List.nil_append, List.append_nil, List.getElem?_cons_zero, List.getElem?_cons_succ, List.set_cons_zero, List.set_cons_succ, List.replicate_succ, List.replicate_zero, Nat.zero_add, Nat.add_sub_cancel, Nat.reduceAdd, Nat.reduceSub, Bool.not_true, Bool.not_false, Bool.false_eq_true, if_false, eDf, ei]
      · have zr : Zs pz qz r := zo
        exact Nat.lt_of_lt_of_le zr.2 (Nat.pow_le_pow_right (by decide) l4)
  obtain ⟨r, s1, er, zr⟩ := s1
  have s2 : exe (GmD k) (.asg (.nm 4) (.call i_law_ratio [(.bin .mod (.bi .int [(.idx (.var 4) (.int 0))]) (.idx (.var 4) (.int 1))), (.idx (.var 4) (.int 1))])) [some (tmD T), some (.str (ph p)), some (frR a), some (eD ov), some (frR r), none] h =
      some (.nx, [some (tmD T), some (.str (ph p)), some (frR a), some (eD ov), some (frR (prt T ov)), none], h) := by
    rw [er]
    simp only [fn_G, con_G, pat_G, ev, evs, evAnd, evOr, evTests, asgT, asgTs, evIt, exe, exes, outD, startD, ob, om, g_b, b_add, b_sub, u_abs, u_int, u_intb, u_max, u_min, c_lt, c_le, c_gt, c_ge, c_eq, c_ne, eqD_int, eqD_bl, ix_0, ix_1, ix_2, fr_0, fr_1, isN_non, isN_fr, isN_e, isN_str, isN_int, isN_tup, lD_none, lD_some, oD_none, oD_some, isAbs, partR, tgS, tgSs, wipeD, List.map_cons, List.map_nil, List.length_cons, List.length_nil, List.cons_append, List.nil_append, List.append_nil, List.getElem?_cons_zero, List.getElem?_cons_succ, List.set_cons_zero, List.set_cons_succ, List.replicate_succ, List.replicate_zero, Nat.zero_add, Nat.add_sub_cancel, Nat.reduceAdd, Nat.reduceSub, Bool.not_true, Bool.not_false, Bool.false_eq_true, if_false, md, key r zr]
  have s3 : ∀ c1 c2 c3 c4 : Bool, decide (prt T ov = 0) = c1 → (decide (p = .active) || decide (p = .after)) = c2 → decide (EQ.fin a = actOf T) = c3 → decide (T.many = .fin 0) = c4 →
      outD (exes (GmD k) [(.asg (.nm 5) (.andE [(.cmp .isin (.var 1) (.tup [(.str "active"), (.str "after")])), (.cmp .eq (.var 2) (.idx (.call i_law_ends [(.var 0)]) (.int 3))), (.cmp .ne (.idx (.var 0) (.int 4)) (.tup [(.int 0), (.int 1)]))])), (.ret (.ife (.andE [(.cmp .eq (.var 4) (.tup [(.int 0), (.int 1)])), (.var 5)]) (.tup [(.int 1), (.int 1)]) (.var 4)))] [some (tmD T), some (.str (ph p)), some (frR a), some (eD ov), some (frR (prt T ov)), none] h) = some (frR (if (c1 && c2 && c3 && !c4) = true then 1 else prt T ov), h) := by
    intro c1 c2 c3 c4 h1 h2 h3 h4
    rw [h1] at e3
    rw [h2] at pin
    rw [h3] at e4
    rw [h4] at e5
    cases c1 <;> cases c2 <;> cases c3 <;> cases c4 <;> simp only [fn_G, con_G, pat_G, ev, evs, evAnd, evOr, evTests, asgT, asgTs, evIt, exe, exes, outD, startD, ob, om, g_b, b_add, b_sub, u_abs, u_int, u_intb, u_max, u_min, c_lt, c_le, c_gt, c_ge, c_eq, c_ne, eqD_int, eqD_bl, ix_0, ix_1, ix_2, fr_0, fr_1, isN_non, isN_fr, isN_e, isN_str, isN_int, isN_tup, lD_none, lD_some, oD_none, oD_some, isAbs, partR, tgS, tgSs, wipeD, List.map_cons, List.map_nil, List.length_cons, List.length_nil, List.cons_append, List.nil_append, List.append_nil, List.getElem?_cons_zero, List.getElem?_cons_succ, List.set_cons_zero, List.set_cons_succ, List.replicate_succ, List.replicate_zero, Nat.zero_add, Nat.add_sub_cancel, Nat.reduceAdd, Nat.reduceSub, Bool.not_true, Bool.not_false, Bool.false_eq_true, if_false, lim2, if_true, f0, f1, e3, pin, al, i3, e4, tm_4, e5] <;> rfl
  have eq : sml T p a ov = if (decide (prt T ov = 0) && (decide (p = .active) || decide (p = .after)) && decide (EQ.fin a = actOf T) && !decide (T.many = .fin 0)) = true then 1 else prt T ov := by
    unfold sml
    simp only [Bool.and_eq_true, Bool.or_eq_true, decide_eq_true_eq, Bool.not_eq_true', decide_eq_false_iff_not, and_assoc, ne_eq]
  rw [eq, ← s3 _ _ _ _ rfl rfl rfl rfl]
  exact congrArg outD ((exes_nx s1).trans (exes_nx s2))
theorem early_b (p : Ph) (b : Bool) (h : MH) : cmpD .isin h (.tup [.str (ph p), .bl b]) (.tup [.tup [.str "before", .bl false], .tup [.str "after", .bl true]]) = some (early p b) := by
  cases p <;> cases b <;>
    first
    | (show inP (.tuple [.str "idle", .bool false]) (.tuple [.tuple [.str "before", .bool false], .tuple [.str "after", .bool true]]) = _; decide +kernel)
    | (show inP (.tuple [.str "idle", .bool true]) (.tuple [.tuple [.str "before", .bool false], .tuple [.str "after", .bool true]]) = _; decide +kernel)
    | (show inP (.tuple [.str "before", .bool false]) (.tuple [.tuple [.str "before", .bool false], .tuple [.str "after", .bool true]]) = _; decide +kernel)
    | (show inP (.tuple [.str "before", .bool true]) (.tuple [.tuple [.str "before", .bool false], .tuple [.str "after", .bool true]]) = _; decide +kernel)
    | (show inP (.tuple [.str "active", .bool false]) (.tuple [.tuple [.str "before", .bool false], .tuple [.str "after", .bool true]]) = _; decide +kernel)
    | (show inP (.tuple [.str "active", .bool true]) (.tuple [.tuple [.str "before", .bool false], .tuple [.str "after", .bool true]]) = _; decide +kernel)
    | (show inP (.tuple [.str "after", .bool false]) (.tuple [.tuple [.str "before", .bool false], .tuple [.str "after", .bool true]]) = _; decide +kernel)
    | (show inP (.tuple [.str "after", .bool true]) (.tuple [.tuple [.str "before", .bool false], .tuple [.str "after", .bool true]]) = _; decide +kernel)
def wIsAlt : Ww → Bool
  | .al => true
  | .ar => true
  | _ => false
theorem ww_cut (w : Ww) (h : MH) : ∃ z, slcD h (.str (ww w)) none (some 9) = some (.str z, h) ∧ eqD h (.str z) (.str "alternate") = some (wIsAlt w) := by
  have sl : ∀ z : Str, z.length ≤ 1000 → slcD h (.str z) none (some 9) = some (.str (Txt.slice z none (some 9)), h) := fun z hz => by
    show (if z.length ≤ 1000 then _ else none) = _
    rw [if_pos hz]
  refine ⟨_, sl _ (by cases w <;> decide +kernel), ?_⟩
  rw [eqD_str h _ _ (by cases w <;> decide +kernel) (by decide +kernel)]
  cases w <;> exact congrArg some (by decide +kernel)
theorem eq_istr (h : MH) (i : Int) (s : Str) (hs : PySem.PyData.strOk s = true) : eqD h (.int i) (.str s) = some false := by
  have es : SeqAt.shaped (.str s) = true := by
    unfold SeqAt.shaped
    rw [PyData.canLay0, hs]
    rfl
  show (if (SeqAt.shaped (.int i) && SeqAt.shaped (.str s)) = true then some (PyData.eqv (.int i) (.str s)) else none) = _
  rw [es, if_pos (by rfl)]
  simp [PyData.eqv]
theorem eq_it (h : MH) (i : Option Int) : eqD h (itD i) (.str "endless") = some i.isNone := by
  cases i with
  | none => exact endless_endless h
  | some i => exact eq_istr h i _ endless_ok
/-! ### the law: at all moments, with both signs -/
theorem mom_loop {k g : Nat} (hk : 6 ≤ k) {s : Nat} {h : MH} (H : SrcH h s) {d q m : Nat} {T : Tm} (o : TmZ d q m T) (m0 : 0 < m) (l1 : d ≤ 1000) (l2 : q ≤ 1000) (l3 : m ≤ 1000)
    (hg : ∀ (x : Rat) (b : Bool) (h : MH), MomZ d q m x → ∃ h', runD k g [tmD T, frR x, .int (sgn b)] h = some (.bl true, h') ∧ Ap h h') (o2 o3 : Option D) (tl : En) :
    ∃ (p2 p3 : Option D) (h' : MH), exe (GmD k) (.for (.nm 2) (.ex (.call i_law_moments [(.var 0), (.var 1)])) [(.for (.nm 3) (.ex (.tup [(.int 1), (.neg (.int 1))])) [(.ift (.notE (.call g [(.var 1), (.var 2), (.var 3)])) [(.ret (.bl false))] [])])]) (some (.ref s) :: some (tmD T) :: o2 :: o3 :: tl) h =
      some (.nx, (some (.ref s) :: some (tmD T) :: p2 :: p3 :: tl), h') ∧ Dr s h h' := by
  obtain ⟨xs, n, h1, e1, c1, D1, z1, n1, lx, x0⟩ := r_law_moments hk H o m0 l1 l2 l3
  have it1 : ∀ h', Ap h1 h' → itemsD h' (.ref n) = some (xs.map frR) := fun h' a => a.keep c1
  have it0 := it1 h1 (Ap.refl h1)
  have lim2 : (0 + 1 + 1 ≤ LIM) = True := by simp [LIM]
  have ei : evIt (GmD k) (.ex (.call i_law_moments [(.var 0), (.var 1)])) (some (.ref s) :: some (tmD T) :: o2 :: o3 :: tl) h = some (.sq (.ref n), h1) := by
    simp only [fn_G, con_G, pat_G, ev, evs, evAnd, evOr, evTests, asgT, asgTs, evIt, exe, exes, outD, startD, ob, om, g_b, b_add, b_sub, u_abs, u_int, u_intb, u_max, u_min, c_lt, c_le, c_gt, c_ge, c_eq, c_ne, eqD_int, eqD_bl, ix_0, ix_1, ix_2, fr_0, fr_1, isN_non, isN_fr, isN_e, isN_str, isN_int, isN_tup, lD_none, lD_some, oD_none, oD_some, isAbs, partR, tgS, tgSs, wipeD, List.map_cons, List.map_nil, List.length_cons, List.length_nil, List.cons_append, List.nil_append, List.append_nil, List.getElem?_cons_zero, List.getElem?_cons_succ, List.set_cons_zero, List.set_cons_succ, List.replicate_succ, List.replicate_zero, Nat.zero_add, Nat.add_sub_cancel, Nat.reduceAdd, Nat.reduceSub, Bool.not_true, Bool.not_false, Bool.false_eq_true, if_false, e1, it0, Option.isSome_some, if_true]
  rw [exe_for ei]
  have sl : srcLen h1 (.sq (.ref n)) = xs.length := by
    show ((itemsD h1 (.ref n)).getD []).length = _
    rw [it0]; simp
  rw [sl]
  generalize hf : forL _ _ _ _ _ _ = X
  have X1 := for_of hf (fun i σ h' => Ap h1 h' ∧ ∃ p2 p3 : Option D, σ = (some (.ref s) :: some (tmD T) :: p2 :: p3 :: tl)) xs.length ⟨Ap.refl h1, _, _, rfl⟩ (Nat.zero_le _) (by omega) (fun σ h' p => by
    show (itemsD _ _).map _ = _
    rw [it1 h' p.1, om, List.getElem?_eq_none (by rw [List.length_map]; exact Nat.le_refl _)])
  clear hf
  obtain ⟨σ', h', e2, a2, p2, p3, rfl⟩ := X1 (by
    clear X1
    rintro i σ h2 li ⟨a2, p2, p3, rfl⟩
    have ei2 : evIt (GmD k) (.ex (.tup [(.int 1), (.neg (.int 1))])) (some (.ref s) :: some (tmD T) :: some (frR xs[i]) :: p3 :: tl) h2 = some (.sq (.tup [.int 1, .int (-1)]), h2) := by
      simp only [fn_G, con_G, pat_G, ev, evs, evAnd, evOr, evTests, asgT, asgTs, evIt, exe, exes, outD, startD, ob, om, g_b, b_add, b_sub, u_abs, u_int, u_intb, u_max, u_min, c_lt, c_le, c_gt, c_ge, c_eq, c_ne, eqD_int, eqD_bl, ix_0, ix_1, ix_2, fr_0, fr_1, isN_non, isN_fr, isN_e, isN_str, isN_int, isN_tup, lD_none, lD_some, oD_none, oD_some, isAbs, partR, tgS, tgSs, wipeD, List.map_cons, List.map_nil, List.length_cons, List.length_nil, List.cons_append, List.nil_append, List.append_nil, List.getElem?_cons_zero, List.getElem?_cons_succ, List.set_cons_zero, List.set_cons_succ, List.replicate_succ, List.replicate_zero, Nat.zero_add, Nat.add_sub_cancel, Nat.reduceAdd, Nat.reduceSub, Bool.not_true, Bool.not_false, Bool.false_eq_true, if_false, lim2, if_true, it_tup, Option.isSome_some]
    have body : ∃ (p3' : Option D) (h3 : MH), exe (GmD k) (.for (.nm 3) (.ex (.tup [(.int 1), (.neg (.int 1))])) [(.ift (.notE (.call g [(.var 1), (.var 2), (.var 3)])) [(.ret (.bl false))] [])]) (some (.ref s) :: some (tmD T) :: some (frR xs[i]) :: p3 :: tl) h2 = some (.nx, (some (.ref s) :: some (tmD T) :: some (frR xs[i]) :: p3' :: tl), h3) ∧ Ap h2 h3 := by
      rw [exe_for ei2]
      generalize hf : forL _ _ _ _ _ _ = Y
      have Y1 := for_of hf (fun j σ h' => Ap h2 h' ∧ ∃ p3 : Option D, σ = (some (.ref s) :: some (tmD T) :: some (frR xs[i]) :: p3 :: tl)) 2 ⟨Ap.refl h2, _, rfl⟩ (Nat.zero_le _) (by show 2 < 2 + 1 + 0; decide) (fun σ h' p => rfl)
      clear hf
      obtain ⟨σ3, h3, e3, a3, p3', rfl⟩ := Y1 (by
        clear Y1
        rintro j σ h3 lj ⟨a3, p3, rfl⟩
        have ok : ∀ b : Bool, ∃ h4, (asgT (GmD k) (.nm 3) (.int (sgn b)) (some (.ref s) :: some (tmD T) :: some (frR xs[i]) :: p3 :: tl) h3).bind (fun q => exes (GmD k) [(.ift (.notE (.call g [(.var 1), (.var 2), (.var 3)])) [(.ret (.bl false))] [])] q.1 q.2) = some (.nx, (some (.ref s) :: some (tmD T) :: some (frR xs[i]) :: some (.int (sgn b)) :: tl), h4) ∧ Ap h3 h4 := by
          intro b
          obtain ⟨h4, e4, a4⟩ := hg xs[i] b h3 (z1 _ (List.getElem_mem li))
          refine ⟨h4, ?_, a4⟩
          simp only [fn_G, con_G, pat_G, ev, evs, evAnd, evOr, evTests, asgT, asgTs, evIt, exe, exes, outD, startD, ob, om, g_b, b_add, b_sub, u_abs, u_int, u_intb, u_max, u_min, c_lt, c_le, c_gt, c_ge, c_eq, c_ne, eqD_int, eqD_bl, ix_0, ix_1, ix_2, fr_0, fr_1, isN_non, isN_fr, isN_e, isN_str, isN_int, isN_tup, lD_none, lD_some, oD_none, oD_some, isAbs, partR, tgS, tgSs, wipeD, List.map_cons, List.map_nil, List.length_cons, List.length_nil, List.cons_append, List.nil_append, List.append_nil, List.getElem?_cons_zero, List.getElem?_cons_succ, List.set_cons_zero, List.set_cons_succ, List.replicate_succ, List.replicate_zero, Nat.zero_add, Nat.add_sub_cancel, Nat.reduceAdd, Nat.reduceSub, Bool.not_true, Bool.not_false, Bool.false_eq_true, if_false, e4]
        match j, lj with
        | 0, _ =>
          obtain ⟨h4, e4, a4⟩ := ok true
          exact ⟨.int 1, _, h4, rfl, e4, a3.trans a4, _, rfl⟩
        | 1, _ =>
          obtain ⟨h4, e4, a4⟩ := ok false
          exact ⟨.int (-1), _, h4, rfl, e4, a3.trans a4, _, rfl⟩)
      subst e3
      exact ⟨p3', h3, rfl, a3⟩
    obtain ⟨p3', h3, e3, a3⟩ := body
    refine ⟨frR xs[i], _, h3, ?_, ?_, a2.trans a3, some (frR xs[i]), p3', rfl⟩
    · show (itemsD _ _).map _ = _
      rw [it1 h2 a2, om, List.getElem?_map, List.getElem?_eq_getElem li]; rfl
    · exact (exes_nx e3).trans exes_nil)
  subst e2
  exact ⟨p2, p3, h', rfl, D1.ap a2⟩

/-! ### the law: progress of all lengths -/
theorem b_addt {xs ys : List D} (h : MH) (n : xs ≠ []) (l : xs.length + ys.length ≤ LIM) : binD .add (.tup xs) (.tup ys) h = some (.tup (xs ++ ys), h) := by
  show (if xs ≠ [] ∧ xs.length + ys.length ≤ LIM then _ else none) = _
  rw [if_pos ⟨n, l⟩]
theorem tail6 (T : Tm) (h : MH) : slcD h (tmD T) (some 6) none = some (.tup [.str (ww T.way), cvD T.cv], h) := rfl
theorem head2 (T : Tm) (h : MH) : slcD h (tmD T) none (some 2) = some (.tup [frR T.delay, frR T.behind], h) := rfl
def qq (n : Int) (d : Nat) (h : d ≠ 0 := by decide) (c : n.natAbs.Coprime d := by decide) : Rat := ⟨n, d, h, c⟩
theorem r_law_lengthy {K : Nat} (hK : 7 ≤ K) {s : Nat} {h : MH} (H : SrcH h s) : ∃ (T : Tm) (h' : MH), runD K i_law_lengthy [.ref s] h = some (tmD T, h') ∧ Dr s h h' ∧ TmOk 31 T ∧ T.fill = .bo := by
  obtain ⟨k, rfl⟩ : ∃ k, K = k + 1 := ⟨K - 1, by omega⟩
  rw [run_law_lengthy _ _ _ rfl]
  have lim2 : (0 + 1 + 1 ≤ LIM) = True := by simp [LIM]
  have lim4 : (0 + 1 + 1 + 1 + 1 ≤ LIM) = True := by simp [LIM]
  have lim6 : (0 + 1 + 1 + 1 + 1 + 1 + 1 ≤ LIM) = True := by simp [LIM]
  obtain ⟨T, h1, e1, D1, o1⟩ := r_law_timing (show 6 ≤ k by omega) H
  obtain ⟨d2, h2, e2, md2, D2⟩ := r_law_one (show 3 ≤ k by omega) D1.1 (x := .tup [.non, .tup [.int 0, .int 1], .str "endless", .tup [.int 10, .int 1], .tup [.int 1, .int 3], .tup [.int 7, .int 2]]) rfl (fun _ _ => rfl) (by simp) (by simp)
  obtain ⟨l, rfl, ol⟩ : ∃ l : Option EQ, d2 = lD l ∧ ∀ e, l = some e → SzE 31 e ∧ Pos e := by
    simp only [List.mem_cons, List.not_mem_nil, or_false] at md2
    rcases md2 with rfl | rfl | rfl | rfl | rfl | rfl
    · exact ⟨none, rfl, fun e z => by cases z⟩
    · exact ⟨some (.fin (qq 0 1)), rfl, fun e z => by cases z; exact ⟨⟨by decide, by decide⟩, by show (0 : Rat) ≤ _; decide⟩⟩
    · exact ⟨some .inf, rfl, fun e z => by cases z; exact ⟨trivial, trivial⟩⟩
    · exact ⟨some (.fin (qq 10 1)), rfl, fun e z => by cases z; exact ⟨⟨by decide, by decide⟩, by show (0 : Rat) ≤ _; decide⟩⟩
    · exact ⟨some (.fin (qq 1 3)), rfl, fun e z => by cases z; exact ⟨⟨by decide, by decide⟩, by show (0 : Rat) ≤ _; decide⟩⟩
    · exact ⟨some (.fin (qq 7 2)), rfl, fun e z => by cases z; exact ⟨⟨by decide, by decide⟩, by show (0 : Rat) ≤ _; decide⟩⟩
  obtain ⟨d3, h3, e3, md3, D3⟩ := r_law_one (show 3 ≤ k by omega) D2.1 (x := .tup [.tup [.int 0, .int 1], .tup [.int 1, .int 1], .tup [.int 3, .int 1], .tup [.int 5, .int 2], .tup [.int 1, .int 4], .str "endless"]) rfl (fun _ _ => rfl) (by simp) (by simp)
  obtain ⟨m, rfl, om1, om2⟩ : ∃ m : EQ, d3 = eD m ∧ SzE 31 m ∧ Pos m := by
    simp only [List.mem_cons, List.not_mem_nil, or_false] at md3
    rcases md3 with rfl | rfl | rfl | rfl | rfl | rfl
    · exact ⟨.fin (qq 0 1), rfl, ⟨by decide, by decide⟩, by show (0 : Rat) ≤ _; decide⟩
    · exact ⟨.fin (qq 1 1), rfl, ⟨by decide, by decide⟩, by show (0 : Rat) ≤ _; decide⟩
    · exact ⟨.fin (qq 3 1), rfl, ⟨by decide, by decide⟩, by show (0 : Rat) ≤ _; decide⟩
    · exact ⟨.fin (qq 5 2), rfl, ⟨by decide, by decide⟩, by show (0 : Rat) ≤ _; decide⟩
    · exact ⟨.fin (qq 1 4), rfl, ⟨by decide, by decide⟩, by show (0 : Rat) ≤ _; decide⟩
    · exact ⟨.inf, rfl, trivial, trivial⟩
  obtain ⟨d4, h4, e4, md4, D4⟩ := r_law_one (show 3 ≤ k by omega) D3.1 (x := .tup [.tup [.int 0, .int 1], .tup [.int 0, .int 1], .tup [.int 1, .int 1], .tup [.int 1, .int 2], .tup [.int 11, .int 4], .tup [.int 2, .int 1]]) rfl (fun _ _ => rfl) (by simp) (by simp)
  obtain ⟨f, rfl, of1, of2⟩ : ∃ f : Rat, d4 = frR f ∧ Sz 31 f ∧ 0 ≤ f := by
    simp only [List.mem_cons, List.not_mem_nil, or_false] at md4
    rcases md4 with rfl | rfl | rfl | rfl | rfl | rfl
    · exact ⟨qq 0 1, rfl, ⟨by decide, by decide⟩, by decide⟩
    · exact ⟨qq 0 1, rfl, ⟨by decide, by decide⟩, by decide⟩
    · exact ⟨qq 1 1, rfl, ⟨by decide, by decide⟩, by decide⟩
    · exact ⟨qq 1 2, rfl, ⟨by decide, by decide⟩, by decide⟩
    · exact ⟨qq 11 4, rfl, ⟨by decide, by decide⟩, by decide⟩
    · exact ⟨qq 2 1, rfl, ⟨by decide, by decide⟩, by decide⟩
  have ea : ∀ h, binD .add (.tup [frR T.delay, frR T.behind]) (.tup [.str "both", frR f, eD m, lD l]) h = some (.tup [frR T.delay, frR T.behind, .str "both", frR f, eD m, lD l], h) := fun h => b_addt h (by simp) (by simp [LIM])
  have eb : ∀ h, binD .add (.tup [frR T.delay, frR T.behind, .str "both", frR f, eD m, lD l]) (.tup [.str (ww T.way), cvD T.cv]) h = some (.tup [frR T.delay, frR T.behind, .str "both", frR f, eD m, lD l, .str (ww T.way), cvD T.cv], h) := fun h => b_addt h (by simp) (by simp [LIM])
  refine ⟨⟨T.delay, T.behind, .bo, f, m, l, T.way, T.cv⟩, h4, ?_, ((D1.trans D2).trans D3).trans D4, ⟨o1.delay, o1.behind, of1, of2, om1, om2, ol, o1.cv⟩, rfl⟩
  simp only [b_law_lengthy, fn_G, con_G, pat_G, ev, evs, evAnd, evOr, evTests, asgT, asgTs, evIt, exe, exes, outD, startD, ob, om, g_b, b_add, b_sub, u_abs, u_int, u_intb, u_max, u_min, c_lt, c_le, c_gt, c_ge, c_eq, c_ne, eqD_int, eqD_bl, ix_0, ix_1, ix_2, fr_0, fr_1, isN_non, isN_fr, isN_e, isN_str, isN_int, isN_tup, lD_none, lD_some, oD_none, oD_some, isAbs, partR, tgS, tgSs, wipeD, List.map_cons, List.map_nil, List.length_cons, List.length_nil, List.cons_append, List.nil_append, List.append_nil, List.getElem?_cons_zero, List.getElem?_cons_succ, List.set_cons_zero, List.set_cons_succ, List.replicate_succ, List.replicate_zero, Nat.zero_add, Nat.add_sub_cancel, Nat.reduceAdd, Nat.reduceSub, Bool.not_true, Bool.not_false, Bool.false_eq_true, if_false, e1, lim2, lim4, lim6, if_true, e2, e3, e4, head2, tail6, ea, eb]
  rfl
theorem actv_both (T : Tm) (t : Rat) (p : Ph) (h : p ≠ .idle) : ∃ a, actv T t p .bo = some a := by
  cases p with
  | idle => exact absurd rfl h
  | before => exact ⟨_, rfl⟩
  | active => exact ⟨_, rfl⟩
  | after => exact ⟨_, rfl⟩
theorem num_int (i : Int) : ((i : Rat)).den = 1 := by rw [Rat.den_intCast]
theorem r_law_shares {K : Nat} (hK : 11 ≤ K) {T : Tm} (o : TmOk 31 T) (fb : T.fill = .bo) {t : Rat} (zt : MomZ 31 31 31 t) (s : Bool) (h : MH) : ∃ h', runD K i_law_shares_right [tmD T, frR t, .int (sgn s)] h = some (.bl true, h') ∧ Ap h h' := by
  obtain ⟨k, rfl⟩ : ∃ k, K = k + 1 := ⟨K - 1, by omega⟩
  rw [run_law_shares_right _ _ _ rfl]
  have zt : Zs 236 164 t := zt
  have lim2 : (0 + 1 + 1 ≤ LIM) = True := by simp [LIM]
  have f0 : D.tup [.int 0, .int 1] = frR 0 := rfl
  have f1 : D.tup [.int 1, .int 1] = frR 1 := rfl
  obtain ⟨h1, e1, a1⟩ := r_told_at (show 10 ≤ k by omega) o.z (by decide) (by decide) (by decide) (by decide) (t := some t) (fun r hr => by cases hr; exact zt) (by decide) (by decide) o.cv.ln s h
  have e1 : runD k i_told_at [tmD T, frR t, .int (sgn s)] h = some (toldD (told T (some t) s), h1) := e1
  have e2 := r_law_phase (show 6 ≤ k by omega) o.z (by decide) (by decide) (by decide) (by decide) zt (by decide) (by decide) s h1
  have pi := phsT_idle T t s
  obtain ⟨a, ha⟩ := actv_both T t (phsT T t s) pi
  have tl : told T (some t) s = (phsT T t s, some (tld T (phsT T t s) a)) := by
    unfold told
    simp only
    rw [fb, ha]; rfl
  rw [tl] at e1
  rw [← fb] at ha
  have za := actv_sz o.z (by decide) zt ha
  generalize phsT T t s = p at *
  have e3 := r_law_overall (show 5 ≤ k by omega) o.z (by decide) (by decide) za (by decide) (by decide) p h1
  have zo := ovr_sz o.z (by decide) za p
  have e4 := r_law_simple (show 6 ≤ k by omega) o.z (by decide) (by decide) (by decide) (by decide) p a zo (by decide) h1
  have zs := sml_sz o.z zo (by decide) (by decide) p a
  have si := sml_in T (ovr T p a) p a
  have sd : sml T p a (ovr T p a) = 1 → (p = .active ∨ p = .after) ∧ EQ.fin a = actOf T ∧ T.many ≠ .fin 0 := by
    intro z
    have pr := prt_in T (ovr T p a)
    unfold sml at z
    split at z
    · rename_i c; exact c.2
    · exfalso; grind
  have sf : sml T p a (ovr T p a) ≠ 1 → sml T p a (ovr T p a) = prt T (ovr T p a) := by
    intro z
    unfold sml at z ⊢
    split at z
    · exact absurd rfl z
    · rename_i c; rw [if_neg c]
  have i0 : ∀ h, idxD h (toldD (p, some (tld T p a))) (.int 1) = some (frR a) := fun h => ix_n (i := 1) rfl
  have sl : ∀ h, slcD h (toldD (p, some (tld T p a))) (some 2) (some 4) = some (.tup [eD (ovr T p a), frR (sml T p a (ovr T p a))], h) := fun h => rfl
  generalize toldD (p, some (tld T p a)) = X at *
  have al := r_law_ends (show 5 ≤ k by omega) o (by decide) (by decide) h1
  have i3 : ∀ h, idxD h (.tup [eD (edgT T).1, eD (edgT T).2.1, eD (edgT T).2.2, eD (actOf T)]) (.int 3) = some (eD (actOf T)) := fun h => ix_n (i := 3) rfl
  have p2 : eqD h1 (.str (ph p)) (.str "before") = some (decide (p = .before)) := ph_eq p .before h1
  have q4 := eq_frE h1 a (actOf T)
  have q5 : eqD h1 (eD T.many) (frR 0) = some (decide (T.many = .fin 0)) := eqD_e h1 T.many (.fin 0)
  have ei := eq_inf h1 (ovr T p a)
  generalize hov : ovr T p a = ov at *
  generalize hsm : sml T p a ov = sm at *
  have et := eqD_te h1 [ov, .fin sm] [ov, .fin sm]
  rw [decide_eq_true rfl] at et
  have et : eqD h1 (.tup [eD ov, frR sm]) (.tup [eD ov, frR sm]) = some true := et
  have zs1 : Sz 1900 sm := zs.mono (by decide)
  have zo1 : SzE 1900 ov := zo.sz (by decide) (by decide)
  obtain ⟨rp, rq⟩ := u_reprT (as := [ov, .fin sm]) h1 (by
    intro x hx
    simp only [List.mem_cons, List.not_mem_nil, or_false] at hx
    rcases hx with rfl | rfl
    · exact zo1
    · exact zs1) (by show 2 ≤ 100; decide)
  have rp : biD .repr [.tup [eD ov, frR sm]] h1 = some (.str (shT [ov, .fin sm]), h1) := rp
  have ls0 := r_law_less (show 1 ≤ k by omega) zs1 Sz0 (by decide) h1
  have ls1 := r_law_less (show 1 ≤ k by omega) Sz1 zs1 (by decide) h1
  rw [decide_eq_false (by grind)] at ls0 ls1
  have es := eqD_fr h1 sm 1
  by_cases c1 : sm = 1
  · rw [decide_eq_true c1] at es
    obtain ⟨b1, b2, b3⟩ := sd c1
    rw [decide_eq_false (by rintro rfl; rcases b1 with z | z <;> cases z)] at p2
    rw [decide_eq_true b2] at q4
    rw [decide_eq_false b3] at q5
    refine ⟨h1, ?_, a1⟩
    simp only [b_law_shares_right, fn_G, con_G, pat_G, ev, evs, evAnd, evOr, evTests, asgT, asgTs, evIt, exe, exes, outD, startD, ob, om, g_b, b_add, b_sub, u_abs, u_int, u_intb, u_max, u_min, c_lt, c_le, c_gt, c_ge, c_eq, c_ne, eqD_int, eqD_bl, ix_0, ix_1, ix_2, fr_0, fr_1, isN_non, isN_fr, isN_e, isN_str, isN_int, isN_tup, lD_none, lD_some, oD_none, oD_some, isAbs, partR, tgS, tgSs, wipeD, List.map_cons, List.map_nil, List.length_cons, List.length_nil, List.cons_append, List.nil_append, List.append_nil, List.getElem?_cons_zero, List.getElem?_cons_succ, List.set_cons_zero, List.set_cons_succ, List.replicate_succ, List.replicate_zero, Nat.zero_add, Nat.add_sub_cancel, Nat.reduceAdd, Nat.reduceSub, Bool.not_true, Bool.not_false, Bool.false_eq_true, if_false, e1, e2, i0, e3, e4, sl, lim2, if_true, et, rp, rq, f0, f1, ls0, ls1, es, p2, al, i3, q4, tm_4, q5]
  · rw [decide_eq_false c1] at es
    cases ov with
    | inf =>
      rw [decide_eq_true rfl] at ei
      refine ⟨h1, ?_, a1⟩
      simp only [b_law_shares_right, fn_G, con_G, pat_G, ev, evs, evAnd, evOr, evTests, asgT, asgTs, evIt, exe, exes, outD, startD, ob, om, g_b, b_add, b_sub, u_abs, u_int, u_intb, u_max, u_min, c_lt, c_le, c_gt, c_ge, c_eq, c_ne, eqD_int, eqD_bl, ix_0, ix_1, ix_2, fr_0, fr_1, isN_non, isN_fr, isN_e, isN_str, isN_int, isN_tup, lD_none, lD_some, oD_none, oD_some, isAbs, partR, tgS, tgSs, wipeD, List.map_cons, List.map_nil, List.length_cons, List.length_nil, List.cons_append, List.nil_append, List.append_nil, List.getElem?_cons_zero, List.getElem?_cons_succ, List.set_cons_zero, List.set_cons_succ, List.replicate_succ, List.replicate_zero, Nat.zero_add, Nat.add_sub_cancel, Nat.reduceAdd, Nat.reduceSub, Bool.not_true, Bool.not_false, Bool.false_eq_true, if_false, e1, e2, i0, e3, e4, sl, lim2, if_true, et, rp, rq, f0, f1, ls0, ls1, es, ei]
    | fin r =>
      rw [decide_eq_false (by intro z; cases z)] at ei
      have ei : eqD h1 (frR r) (.str "endless") = some false := ei
      have e4 : runD k i_law_simple [tmD T, .str (ph p), frR a, frR r] h1 = some (frR sm, h1) := e4
      have er : sm = frc r := sf c1
      have mn := r_law_minus (show 3 ≤ k by omega) (show Sz 1900 r from zo1) zs1 (by decide) h1
      have dn : r - sm = ((flo r : Int) : Rat) := by
        have := frc_eq r
        grind
      have d1 : decide (((r - sm).den : Int) = 1) = true := by rw [dn, num_int]; rfl
      have et : eqD h1 (.tup [frR r, frR sm]) (.tup [frR r, frR sm]) = some true := et
      have rp : biD .repr [.tup [frR r, frR sm]] h1 = some (.str (shT [.fin r, .fin sm]), h1) := rp
      refine ⟨h1, ?_, a1⟩
      simp only [b_law_shares_right, fn_G, con_G, pat_G, ev, evs, evAnd, evOr, evTests, asgT, asgTs, evIt, exe, exes, outD, startD, ob, om, g_b, b_add, b_sub, u_abs, u_int, u_intb, u_max, u_min, c_lt, c_le, c_gt, c_ge, c_eq, c_ne, eqD_int, eqD_bl, ix_0, ix_1, ix_2, fr_0, fr_1, isN_non, isN_fr, isN_e, isN_str, isN_int, isN_tup, lD_none, lD_some, oD_none, oD_some, isAbs, partR, tgS, tgSs, wipeD, List.map_cons, List.map_nil, List.length_cons, List.length_nil, List.cons_append, List.nil_append, List.append_nil, List.getElem?_cons_zero, List.getElem?_cons_succ, List.set_cons_zero, List.set_cons_succ, List.replicate_succ, List.replicate_zero, Nat.zero_add, Nat.add_sub_cancel, Nat.reduceAdd, Nat.reduceSub, Bool.not_true, Bool.not_false, Bool.false_eq_true, if_false, eDf, e1, e2, i0, e3, e4, sl, lim2, if_true, et, rp, rq, f0, f1, ls0, ls1, es, ei, mn, d1]
theorem r_law_right {K : Nat} (hK : 12 ≤ K) {s : Nat} {h : MH} (H : SrcH h s) : ∃ h' : MH, runD K i_law_right [.ref s] h = some (.bl true, h') ∧ Dr s h h' := by
  obtain ⟨k, rfl⟩ : ∃ k, K = k + 1 := ⟨K - 1, by omega⟩
  rw [run_law_right _ _ _ rfl]
  obtain ⟨T, h1, e1, D1, o, fb⟩ := r_law_lengthy (show 7 ≤ k by omega) H
  have s1 : exe (GmD k) (.asg (.nm 1) (.call i_law_lengthy [(.var 0)])) (startD 4 [.ref s]) h = some (.nx, [some (.ref s), some (tmD T), none, none], h1) := by
    simp only [fn_G, con_G, pat_G, ev, evs, evAnd, evOr, evTests, asgT, asgTs, evIt, exe, exes, outD, startD, ob, om, g_b, b_add, b_sub, u_abs, u_int, u_intb, u_max, u_min, c_lt, c_le, c_gt, c_ge, c_eq, c_ne, eqD_int, eqD_bl, ix_0, ix_1, ix_2, fr_0, fr_1, isN_non, isN_fr, isN_e, isN_str, isN_int, isN_tup, lD_none, lD_some, oD_none, oD_some, isAbs, partR, tgS, tgSs, wipeD, List.map_cons, List.map_nil, List.length_cons, List.length_nil, List.cons_append, List.nil_append, List.append_nil, List.getElem?_cons_zero, List.getElem?_cons_succ, List.set_cons_zero, List.set_cons_succ, List.replicate_succ, List.replicate_zero, Nat.zero_add, Nat.add_sub_cancel, Nat.reduceAdd, Nat.reduceSub, Bool.not_true, Bool.not_false, Bool.false_eq_true, if_false, e1]
  obtain ⟨p2, p3, h2, s2, D2⟩ := mom_loop (k := k) (g := i_law_shares_right) (by omega) D1.1 o.z (by decide) (by decide) (by decide) (by decide) (fun x b h zx => r_law_shares (by omega) o fb zx b h) none none []
  exact ⟨h2, outD_rt ((exes_nx s1).trans ((exes_nx s2).trans (exes_rt (exe_ret rfl)))), D1.trans D2⟩
theorem hand_ok : isT (runD 19 i_law_by_hand [] []) = true := by decide +kernel
theorem law_true (ns : List Int) (hl : ns.length ≤ 63) : ∃ h, runD 20 i_law [.frl (ns.map .int)] [] = some (.bl true, h) := by
  show ∃ h, runD (19 + 1) i_law [scrD ns] [] = _
  rw [run_law _ _ _ rfl]
  have q : ∀ h, biD .len [scrD ns] h = some (.int ns.length, h) := fun h => by rw [u_len (xs := ns.map D.int) rfl, List.length_map]
  have r4 : okR 4 = true := by decide
  simp only [b_law, fn_G, con_G, pat_G, ev, evs, evAnd, evOr, evTests, asgT, asgTs, evIt, exe, exes, outD, startD, ob, om, g_b, b_add, b_sub, u_abs, u_int, u_intb, u_max, u_min, c_lt, c_le, c_gt, c_ge, c_eq, c_ne, eqD_int, eqD_bl, ix_0, ix_1, ix_2, fr_0, fr_1, isN_non, isN_fr, isN_e, isN_str, isN_int, isN_tup, lD_none, lD_some, oD_none, oD_some, isAbs, partR, tgS, tgSs, wipeD, List.map_cons, List.map_nil, List.length_cons, List.length_nil, List.cons_append, List.nil_append, List.append_nil, List.getElem?_cons_zero, List.getElem?_cons_succ, List.set_cons_zero, List.set_cons_succ, List.replicate_succ, List.replicate_zero, Nat.zero_add, Nat.add_sub_cancel, Nat.reduceAdd, Nat.reduceSub, Bool.not_true, Bool.not_false, Bool.false_eq_true, if_false, q]
  generalize eN : (if (if (ns.length : Int) < 5 then (ns.length : Int) else 5) > 1 then (if (ns.length : Int) < 5 then (ns.length : Int) else 5) else 1) = N
  have rN : okR N = true := okR_of (by split at eN <;> split at eN <;> omega) (by split at eN <;> split at eN <;> omega)
  simp only [rN, if_true, fn_G, con_G, pat_G, ev, evs, evAnd, evOr, evTests, asgT, asgTs, evIt, exe, exes, outD, startD, ob, om, g_b, b_add, b_sub, u_abs, u_int, u_intb, u_max, u_min, c_lt, c_le, c_gt, c_ge, c_eq, c_ne, eqD_int, eqD_bl, ix_0, ix_1, ix_2, fr_0, fr_1, isN_non, isN_fr, isN_e, isN_str, isN_int, isN_tup, lD_none, lD_some, oD_none, oD_some, isAbs, partR, tgS, tgSs, wipeD, List.map_cons, List.map_nil, List.length_cons, List.length_nil, List.cons_append, List.nil_append, List.append_nil, List.getElem?_cons_zero, List.getElem?_cons_succ, List.set_cons_zero, List.set_cons_succ, List.replicate_succ, List.replicate_zero, Nat.zero_add, Nat.add_sub_cancel, Nat.reduceAdd, Nat.reduceSub, Bool.not_true, Bool.not_false, Bool.false_eq_true, if_false]
  generalize hf : forL _ _ _ _ _ _ = X
  have X1 := for_of hf (fun i σ h' => ∃ o1 o2 o3 : Option D, σ = [some (scrD ns), o1, o2, o3]) N.toNat ⟨_, _, _, rfl⟩ (Nat.zero_le _) (by show N.toNat < N.toNat + 1 + 0; omega)
    (fun σ h p => congrArg some (if_neg (by omega)))
  clear hf
  obtain ⟨σ1, h1, e1, p1⟩ := X1 (by
    clear X1
    rintro i σ h' li ⟨o1, o2, o3, rfl⟩
    obtain ⟨v, es⟩ := r_law_source (show 2 ≤ 19 by omega) ns (0 + i) h'
    rw [show ((0 + i : Nat) : Int) = (0 : Int) + (i : Int) by omega] at es
    have S : SrcH (h' ++ [[.int v, .int v, .int 0]]) h'.length := ⟨v, v, 0, get_app _ _⟩
    generalize h' ++ [[.int v, .int v, .int 0]] = h2 at es S
    refine ⟨.int (0 + (i : Int)), ?_⟩
    simp only [fn_G, con_G, pat_G, ev, evs, evAnd, evOr, evTests, asgT, asgTs, evIt, exe, exes, outD, startD, ob, om, g_b, b_add, b_sub, u_abs, u_int, u_intb, u_max, u_min, c_lt, c_le, c_gt, c_ge, c_eq, c_ne, eqD_int, eqD_bl, ix_0, ix_1, ix_2, fr_0, fr_1, isN_non, isN_fr, isN_e, isN_str, isN_int, isN_tup, lD_none, lD_some, oD_none, oD_some, isAbs, partR, tgS, tgSs, wipeD, List.map_cons, List.map_nil, List.length_cons, List.length_nil, List.cons_append, List.nil_append, List.append_nil, List.getElem?_cons_zero, List.getElem?_cons_succ, List.set_cons_zero, List.set_cons_succ, List.replicate_succ, List.replicate_zero, Nat.zero_add, Nat.add_sub_cancel, Nat.reduceAdd, Nat.reduceSub, Bool.not_true, Bool.not_false, Bool.false_eq_true, if_false, es, r4, if_true]
    generalize hg : forL _ _ _ _ _ _ = Y
    have Y1 := for_of hg (fun i' σ h3 => SrcH h3 h'.length ∧ ∃ o5 : Option D, σ = [some (scrD ns), some (.int (0 + (i : Int))), some (.ref h'.length), o5]) 4 ⟨S, _, rfl⟩ (Nat.zero_le _) (by show 4 < (4 : Int).toNat + 1 + 0; omega)
      (fun σ h p => congrArg some (if_neg (by show ¬ 4 < (4 : Int).toNat; omega)))
    clear hg
    obtain ⟨σ2, h3, e2, p2, o, ep⟩ := Y1 (by
      clear Y1
      rintro j σ h3 lj ⟨S3, o, rfl⟩
      obtain ⟨h4, e4, D4⟩ := r_law_right (show 12 ≤ 19 by omega) S3
      exact ⟨.int (0 + (j : Int)), _, h4, congrArg some (if_pos (show j < (4 : Int).toNat from lj)), by simp only [fn_G, con_G, pat_G, ev, evs, evAnd, evOr, evTests, asgT, asgTs, evIt, exe, exes, outD, startD, ob, om, g_b, b_add, b_sub, u_abs, u_int, u_intb, u_max, u_min, c_lt, c_le, c_gt, c_ge, c_eq, c_ne, eqD_int, eqD_bl, ix_0, ix_1, ix_2, fr_0, fr_1, isN_non, isN_fr, isN_e, isN_str, isN_int, isN_tup, lD_none, lD_some, oD_none, oD_some, isAbs, partR, tgS, tgSs, wipeD, List.map_cons, List.map_nil, List.length_cons, List.length_nil, List.cons_append, List.nil_append, List.append_nil, List.getElem?_cons_zero, List.getElem?_cons_succ, List.set_cons_zero, List.set_cons_succ, List.replicate_succ, List.replicate_zero, Nat.zero_add, Nat.add_sub_cancel, Nat.reduceAdd, Nat.reduceSub, Bool.not_true, Bool.not_false, Bool.false_eq_true, if_false, e4]; rfl, D4.1, _, rfl⟩)
    subst e2
    subst ep
    exact ⟨_, h3, congrArg some (if_pos li), rfl, _, _, _, rfl⟩)
  subst e1
  obtain ⟨o1, o2, o3, rfl⟩ := p1
  obtain ⟨h2, e2, _⟩ := byhand hand_ok h1
  refine ⟨h2, ?_⟩
  simp only [fn_G, con_G, pat_G, ev, evs, evAnd, evOr, evTests, asgT, asgTs, evIt, exe, exes, outD, startD, ob, om, g_b, b_add, b_sub, u_abs, u_int, u_intb, u_max, u_min, c_lt, c_le, c_gt, c_ge, c_eq, c_ne, eqD_int, eqD_bl, ix_0, ix_1, ix_2, fr_0, fr_1, isN_non, isN_fr, isN_e, isN_str, isN_int, isN_tup, lD_none, lD_some, oD_none, oD_some, isAbs, partR, tgS, tgSs, wipeD, List.map_cons, List.map_nil, List.length_cons, List.length_nil, List.cons_append, List.nil_append, List.append_nil, List.getElem?_cons_zero, List.getElem?_cons_succ, List.set_cons_zero, List.set_cons_succ, List.replicate_succ, List.replicate_zero, Nat.zero_add, Nat.add_sub_cancel, Nat.reduceAdd, Nat.reduceSub, Bool.not_true, Bool.not_false, Bool.false_eq_true, if_false, e2]

end Fq.La

set_option maxHeartbeats 8000000
namespace Fq.La
open PySem PySem.Spec PyProof.Rows L2 Fq
section
variable {K : PySem.W.Frag} {h : Heap} {mg : Str → Option Value}
theorem in_is_whole (X : K.In h) (G : h.Ns mainGlobals mg) (c : He.SaysD faL fnL K) : FnInfo K mg Tc patD dfsD 0 "is_whole" := by
  obtain ⟨fd, F⟩ := c.def_ 0 (d := dd_is_whole) rfl
  have F : FunD K "is_whole" "is_whole" (defArgs (top 9)) (defBody (top 9)) (defScope (top 9)) [] [] (He.fAd K dd_is_whole.at_) fd := F
  refine ⟨top 9, _, fd, ["thing"], _, _, F, sc_is_whole, He.glo_ok X G (c.fact 0 rfl), F.bindsN fun _ _ _ _ _ _ us hl => match us, hl with | [_], _ => rfl, rfl, rfl, rfl, ok_is_whole, ?_⟩
  intro p n ks hp
  match p, hp with
  | 0, hp => exact absurd hp (by simp [Tc, pkL])
  | (p + 1), hp => exact absurd hp (by simp [Tc, pkL])
theorem in_divisor (X : K.In h) (G : h.Ns mainGlobals mg) (c : He.SaysD faL fnL K) : FnInfo K mg Tc patD dfsD 1 "divisor" := by
  obtain ⟨fd, F⟩ := c.def_ 1 (d := dd_divisor) rfl
  have F : FunD K "divisor" "divisor" (defArgs (top 10)) (defBody (top 10)) (defScope (top 10)) [] [] (He.fAd K dd_divisor.at_) fd := F
  refine ⟨top 10, _, fd, ["one", "other"], _, _, F, sc_divisor, He.glo_ok X G (c.fact 1 rfl), F.bindsN fun _ _ _ _ _ _ us hl => match us, hl with | [_, _], _ => rfl, rfl, rfl, rfl, ok_divisor, ?_⟩
  intro p n ks hp
  match p, hp with
  | 0, hp => exact absurd hp (by simp [Tc, pkL])
  | (p + 1), hp => exact absurd hp (by simp [Tc, pkL])
theorem in_is_fraction (X : K.In h) (G : h.Ns mainGlobals mg) (c : He.SaysD faL fnL K) : FnInfo K mg Tc patD dfsD 2 "is_fraction" := by
  obtain ⟨fd, F⟩ := c.def_ 2 (d := dd_is_fraction) rfl
  have F : FunD K "is_fraction" "is_fraction" (defArgs (top 11)) (defBody (top 11)) (defScope (top 11)) [] [] (He.fAd K dd_is_fraction.at_) fd := F
  refine ⟨top 11, _, fd, ["thing"], _, _, F, sc_is_fraction, He.glo_ok X G (c.fact 2 rfl), F.bindsN fun _ _ _ _ _ _ us hl => match us, hl with | [_], _ => rfl, rfl, rfl, rfl, ok_is_fraction, ?_⟩
  intro p n ks hp
  match p, hp with
  | 0, hp => exact absurd hp (by simp [Tc, pkL])
  | (p + 1), hp => exact absurd hp (by simp [Tc, pkL])
theorem in_is_endless (X : K.In h) (G : h.Ns mainGlobals mg) (c : He.SaysD faL fnL K) : FnInfo K mg Tc patD dfsD 3 "is_endless" := by
  obtain ⟨fd, F⟩ := c.def_ 3 (d := dd_is_endless) rfl
  have F : FunD K "is_endless" "is_endless" (defArgs (top 12)) (defBody (top 12)) (defScope (top 12)) [] [] (He.fAd K dd_is_endless.at_) fd := F
  refine ⟨top 12, _, fd, ["thing"], _, _, F, sc_is_endless, He.glo_ok X G (c.fact 3 rfl), F.bindsN fun _ _ _ _ _ _ us hl => match us, hl with | [_], _ => rfl, rfl, rfl, rfl, ok_is_endless, ?_⟩
  intro p n ks hp
  match p, hp with
  | 0, hp => exact absurd hp (by simp [Tc, pkL])
  | (p + 1), hp => exact absurd hp (by simp [Tc, pkL])
theorem in_ratio (X : K.In h) (G : h.Ns mainGlobals mg) (c : He.SaysD faL fnL K) : FnInfo K mg Tc patD dfsD 4 "ratio" := by
  obtain ⟨fd, F⟩ := c.def_ 4 (d := dd_ratio) rfl
  have F : FunD K "ratio" "ratio" (defArgs (top 13)) (defBody (top 13)) (defScope (top 13)) [] [] (He.fAd K dd_ratio.at_) fd := F
  refine ⟨top 13, _, fd, ["top", "bottom", "measure"], _, _, F, sc_ratio, He.glo_ok X G (c.fact 4 rfl), F.bindsN fun _ _ _ _ _ _ us hl => match us, hl with | [_, _], _ => rfl, rfl, rfl, rfl, ok_ratio, ?_⟩
  intro p n ks hp
  match p, hp with
  | 0, hp => exact absurd hp (by simp [Tc, pkL])
  | (p + 1), hp => exact absurd hp (by simp [Tc, pkL])
theorem in_plus (X : K.In h) (G : h.Ns mainGlobals mg) (c : He.SaysD faL fnL K) : FnInfo K mg Tc patD dfsD 5 "plus" := by
  obtain ⟨fd, F⟩ := c.def_ 5 (d := dd_plus) rfl
  have F : FunD K "plus" "plus" (defArgs (top 14)) (defBody (top 14)) (defScope (top 14)) [] [] (He.fAd K dd_plus.at_) fd := F
  refine ⟨top 14, _, fd, ["one", "other"], _, _, F, sc_plus, He.glo_ok X G (c.fact 5 rfl), F.bindsN fun _ _ _ _ _ _ us hl => match us, hl with | [_, _], _ => rfl, rfl, rfl, rfl, ok_plus, ?_⟩
  intro p n ks hp
  match p, hp with
  | 0, hp => exact absurd hp (by simp [Tc, pkL])
  | (p + 1), hp => exact absurd hp (by simp [Tc, pkL])
theorem in_minus (X : K.In h) (G : h.Ns mainGlobals mg) (c : He.SaysD faL fnL K) : FnInfo K mg Tc patD dfsD 6 "minus" := by
  obtain ⟨fd, F⟩ := c.def_ 6 (d := dd_minus) rfl
  have F : FunD K "minus" "minus" (defArgs (top 15)) (defBody (top 15)) (defScope (top 15)) [] [] (He.fAd K dd_minus.at_) fd := F
  refine ⟨top 15, _, fd, ["one", "other"], _, _, F, sc_minus, He.glo_ok X G (c.fact 6 rfl), F.bindsN fun _ _ _ _ _ _ us hl => match us, hl with | [_, _], _ => rfl, rfl, rfl, rfl, ok_minus, ?_⟩
  intro p n ks hp
  match p, hp with
  | 0, hp => exact absurd hp (by simp [Tc, pkL])
  | (p + 1), hp => exact absurd hp (by simp [Tc, pkL])
theorem in_product (X : K.In h) (G : h.Ns mainGlobals mg) (c : He.SaysD faL fnL K) : FnInfo K mg Tc patD dfsD 7 "product" := by
  obtain ⟨fd, F⟩ := c.def_ 7 (d := dd_product) rfl
  have F : FunD K "product" "product" (defArgs (top 16)) (defBody (top 16)) (defScope (top 16)) [] [] (He.fAd K dd_product.at_) fd := F
  refine ⟨top 16, _, fd, ["one", "other"], _, _, F, sc_product, He.glo_ok X G (c.fact 7 rfl), F.bindsN fun _ _ _ _ _ _ us hl => match us, hl with | [_, _], _ => rfl, rfl, rfl, rfl, ok_product, ?_⟩
  intro p n ks hp
  match p, hp with
  | 0, hp => exact absurd hp (by simp [Tc, pkL])
  | (p + 1), hp => exact absurd hp (by simp [Tc, pkL])
theorem in_quotient (X : K.In h) (G : h.Ns mainGlobals mg) (c : He.SaysD faL fnL K) : FnInfo K mg Tc patD dfsD 8 "quotient" := by
  obtain ⟨fd, F⟩ := c.def_ 8 (d := dd_quotient) rfl
  have F : FunD K "quotient" "quotient" (defArgs (top 17)) (defBody (top 17)) (defScope (top 17)) [] [] (He.fAd K dd_quotient.at_) fd := F
  refine ⟨top 17, _, fd, ["one", "other"], _, _, F, sc_quotient, He.glo_ok X G (c.fact 8 rfl), F.bindsN fun _ _ _ _ _ _ us hl => match us, hl with | [_, _], _ => rfl, rfl, rfl, rfl, ok_quotient, ?_⟩
  intro p n ks hp
  match p, hp with
  | 0, hp => exact absurd hp (by simp [Tc, pkL])
  | (p + 1), hp => exact absurd hp (by simp [Tc, pkL])
theorem in_less (X : K.In h) (G : h.Ns mainGlobals mg) (c : He.SaysD faL fnL K) : FnInfo K mg Tc patD dfsD 9 "less" := by
  obtain ⟨fd, F⟩ := c.def_ 9 (d := dd_less) rfl
  have F : FunD K "less" "less" (defArgs (top 18)) (defBody (top 18)) (defScope (top 18)) [] [] (He.fAd K dd_less.at_) fd := F
  refine ⟨top 18, _, fd, ["one", "other"], _, _, F, sc_less, He.glo_ok X G (c.fact 9 rfl), F.bindsN fun _ _ _ _ _ _ us hl => match us, hl with | [_, _], _ => rfl, rfl, rfl, rfl, ok_less, ?_⟩
  intro p n ks hp
  match p, hp with
  | 0, hp => exact absurd hp (by simp [Tc, pkL])
  | (p + 1), hp => exact absurd hp (by simp [Tc, pkL])
theorem in_lesser (X : K.In h) (G : h.Ns mainGlobals mg) (c : He.SaysD faL fnL K) : FnInfo K mg Tc patD dfsD 10 "lesser" := by
  obtain ⟨fd, F⟩ := c.def_ 10 (d := dd_lesser) rfl
  have F : FunD K "lesser" "lesser" (defArgs (top 19)) (defBody (top 19)) (defScope (top 19)) [] [] (He.fAd K dd_lesser.at_) fd := F
  refine ⟨top 19, _, fd, ["one", "other"], _, _, F, sc_lesser, He.glo_ok X G (c.fact 10 rfl), F.bindsN fun _ _ _ _ _ _ us hl => match us, hl with | [_, _], _ => rfl, rfl, rfl, rfl, ok_lesser, ?_⟩
  intro p n ks hp
  match p, hp with
  | 0, hp => exact absurd hp (by simp [Tc, pkL])
  | (p + 1), hp => exact absurd hp (by simp [Tc, pkL])
theorem in_greater (X : K.In h) (G : h.Ns mainGlobals mg) (c : He.SaysD faL fnL K) : FnInfo K mg Tc patD dfsD 11 "greater" := by
  obtain ⟨fd, F⟩ := c.def_ 11 (d := dd_greater) rfl
  have F : FunD K "greater" "greater" (defArgs (top 20)) (defBody (top 20)) (defScope (top 20)) [] [] (He.fAd K dd_greater.at_) fd := F
  refine ⟨top 20, _, fd, ["one", "other"], _, _, F, sc_greater, He.glo_ok X G (c.fact 11 rfl), F.bindsN fun _ _ _ _ _ _ us hl => match us, hl with | [_, _], _ => rfl, rfl, rfl, rfl, ok_greater, ?_⟩
  intro p n ks hp
  match p, hp with
  | 0, hp => exact absurd hp (by simp [Tc, pkL])
  | (p + 1), hp => exact absurd hp (by simp [Tc, pkL])
theorem in_floor_of (X : K.In h) (G : h.Ns mainGlobals mg) (c : He.SaysD faL fnL K) : FnInfo K mg Tc patD dfsD 12 "floor_of" := by
  obtain ⟨fd, F⟩ := c.def_ 12 (d := dd_floor_of) rfl
  have F : FunD K "floor_of" "floor_of" (defArgs (top 21)) (defBody (top 21)) (defScope (top 21)) [] [] (He.fAd K dd_floor_of.at_) fd := F
  refine ⟨top 21, _, fd, ["one"], _, _, F, sc_floor_of, He.glo_ok X G (c.fact 12 rfl), F.bindsN fun _ _ _ _ _ _ us hl => match us, hl with | [_], _ => rfl, rfl, rfl, rfl, ok_floor_of, ?_⟩
  intro p n ks hp
  match p, hp with
  | 0, hp => exact absurd hp (by simp [Tc, pkL])
  | (p + 1), hp => exact absurd hp (by simp [Tc, pkL])
theorem in_part_of (X : K.In h) (G : h.Ns mainGlobals mg) (c : He.SaysD faL fnL K) : FnInfo K mg Tc patD dfsD 13 "part_of" := by
  obtain ⟨fd, F⟩ := c.def_ 13 (d := dd_part_of) rfl
  have F : FunD K "part_of" "part_of" (defArgs (top 22)) (defBody (top 22)) (defScope (top 22)) [] [] (He.fAd K dd_part_of.at_) fd := F
  refine ⟨top 22, _, fd, ["one"], _, _, F, sc_part_of, He.glo_ok X G (c.fact 13 rfl), F.bindsN fun _ _ _ _ _ _ us hl => match us, hl with | [_], _ => rfl, rfl, rfl, rfl, ok_part_of, ?_⟩
  intro p n ks hp
  match p, hp with
  | 0, hp => exact absurd hp (by simp [Tc, pkL])
  | (p + 1), hp => exact absurd hp (by simp [Tc, pkL])
theorem in_as_fraction (X : K.In h) (G : h.Ns mainGlobals mg) (c : He.SaysD faL fnL K) : FnInfo K mg Tc patD dfsD 14 "as_fraction" := by
  obtain ⟨fd, F⟩ := c.def_ 14 (d := dd_as_fraction) rfl
  have F : FunD K "as_fraction" "as_fraction" (defArgs (top 23)) (defBody (top 23)) (defScope (top 23)) [] [] (He.fAd K dd_as_fraction.at_) fd := F
  refine ⟨top 23, _, fd, ["number"], _, _, F, sc_as_fraction, He.glo_ok X G (c.fact 14 rfl), F.bindsN fun _ _ _ _ _ _ us hl => match us, hl with | [_], _ => rfl, rfl, rfl, rfl, ok_as_fraction, ?_⟩
  intro p n ks hp
  match p, hp with
  | 0, hp => exact absurd hp (by simp [Tc, pkL])
  | (p + 1), hp => exact absurd hp (by simp [Tc, pkL])
theorem in_is_point (X : K.In h) (G : h.Ns mainGlobals mg) (c : He.SaysD faL fnL K) : FnInfo K mg Tc patD dfsD 15 "is_point" := by
  obtain ⟨fd, F⟩ := c.def_ 15 (d := dd_is_point) rfl
  have F : FunD K "is_point" "is_point" (defArgs (top 26)) (defBody (top 26)) (defScope (top 26)) [] [] (He.fAd K dd_is_point.at_) fd := F
  refine ⟨top 26, _, fd, ["thing"], _, _, F, sc_is_point, He.glo_ok X G (c.fact 15 rfl), F.bindsN fun _ _ _ _ _ _ us hl => match us, hl with | [_], _ => rfl, rfl, rfl, rfl, ok_is_point, ?_⟩
  intro p n ks hp
  match p, hp with
  | 0, hp => exact absurd hp (by simp [Tc, pkL])
  | (p + 1), hp => exact absurd hp (by simp [Tc, pkL])
theorem in_is_curve (X : K.In h) (G : h.Ns mainGlobals mg) (c : He.SaysD faL fnL K) : FnInfo K mg Tc patD dfsD 16 "is_curve" := by
  obtain ⟨fd, F⟩ := c.def_ 16 (d := dd_is_curve) rfl
  have F : FunD K "is_curve" "is_curve" (defArgs (top 27)) (defBody (top 27)) (defScope (top 27)) [] [] (He.fAd K dd_is_curve.at_) fd := F
  refine ⟨top 27, _, fd, ["thing", "point"], _, _, F, sc_is_curve, He.glo_ok X G (c.fact 16 rfl), F.bindsN fun _ _ _ _ _ _ us hl => match us, hl with | [_], _ => rfl, rfl, rfl, rfl, ok_is_curve, ?_⟩
  intro p n ks hp
  match p, hp with
  | 0, hp => exact absurd hp (by simp [Tc, pkL])
  | (p + 1), hp => exact absurd hp (by simp [Tc, pkL])
theorem in_spread (X : K.In h) (G : h.Ns mainGlobals mg) (c : He.SaysD faL fnL K) : FnInfo K mg Tc patD dfsD 17 "spread" := by
  obtain ⟨fd, F⟩ := c.def_ 17 (d := dd_spread) rfl
  have F : FunD K "spread" "spread" (defArgs (top 28)) (defBody (top 28)) (defScope (top 28)) [] [] (He.fAd K dd_spread.at_) fd := F
  refine ⟨top 28, _, fd, ["inputs", "found", "at", "behind", "gap", "place"], _, _, F, sc_spread, He.glo_ok X G (c.fact 17 rfl), F.bindsN fun _ _ _ _ _ _ us hl => match us, hl with | [_], _ => rfl, rfl, rfl, rfl, ok_spread, ?_⟩
  intro p n ks hp
  match p, hp with
  | 0, hp => exact absurd hp (by simp [Tc, pkL])
  | (p + 1), hp => exact absurd hp (by simp [Tc, pkL])
theorem in_settled_points (X : K.In h) (G : h.Ns mainGlobals mg) (c : He.SaysD faL fnL K) : FnInfo K mg Tc patD dfsD 18 "settled_points" := by
  obtain ⟨fd, F⟩ := c.def_ 18 (d := dd_settled_points) rfl
  have F : FunD K "settled_points" "settled_points" (defArgs (top 29)) (defBody (top 29)) (defScope (top 29)) [] [] (He.fAd K dd_settled_points.at_) fd := F
  refine ⟨top 29, _, fd, ["points", "inputs", "most", "at", "told", "point"], _, _, F, sc_settled_points, He.glo_ok X G (c.fact 18 rfl), F.bindsN fun _ _ _ _ _ _ us hl => match us, hl with | [_], _ => rfl, rfl, rfl, rfl, ok_settled_points, ?_⟩
  intro p n ks hp
  match p, hp with
  | 0, hp => exact absurd hp (by simp [Tc, pkL])
  | (p + 1), hp => exact absurd hp (by simp [Tc, pkL])
theorem in_linear_value (X : K.In h) (G : h.Ns mainGlobals mg) (c : He.SaysD faL fnL K) : FnInfo K mg Tc patD dfsD 19 "linear_value" := by
  obtain ⟨fd, F⟩ := c.def_ 19 (d := dd_linear_value) rfl
  have F : FunD K "linear_value" "linear_value" (defArgs (top 30)) (defBody (top 30)) (defScope (top 30)) [] [] (He.fAd K dd_linear_value.at_) fd := F
  refine ⟨top 30, _, fd, ["points", "x", "ahead", "at", "part", "first", "second"], _, _, F, sc_linear_value, He.glo_ok X G (c.fact 19 rfl), F.bindsN fun _ _ _ _ _ _ us hl => match us, hl with | [_, _], _ => rfl, rfl, rfl, rfl, ok_linear_value, ?_⟩
  intro p n ks hp
  match p, hp with
  | 0, hp => exact absurd hp (by simp [Tc, pkL])
  | (p + 1), hp => exact absurd hp (by simp [Tc, pkL])
theorem in_cubic_value (X : K.In h) (G : h.Ns mainGlobals mg) (c : He.SaysD faL fnL K) : FnInfo K mg Tc patD dfsD 20 "cubic_value" := by
  obtain ⟨fd, F⟩ := c.def_ 20 (d := dd_cubic_value) rfl
  have F : FunD K "cubic_value" "cubic_value" (defArgs (top 31)) (defBody (top 31)) (defScope (top 31)) [] [] (He.fAd K dd_cubic_value.at_) fd := F
  refine ⟨top 31, _, fd, ["a", "b", "x", "rest", "first", "second"], _, _, F, sc_cubic_value, He.glo_ok X G (c.fact 20 rfl), F.bindsN fun _ _ _ _ _ _ us hl => match us, hl with | [_, _, _], _ => rfl, rfl, rfl, rfl, ok_cubic_value, ?_⟩
  intro p n ks hp
  match p, hp with
  | 0, hp => exact absurd hp (by simp [Tc, pkL])
  | (p + 1), hp => exact absurd hp (by simp [Tc, pkL])
theorem in_steps_value (X : K.In h) (G : h.Ns mainGlobals mg) (c : He.SaysD faL fnL K) : FnInfo K mg Tc patD dfsD 21 "steps_value" := by
  obtain ⟨fd, F⟩ := c.def_ 21 (d := dd_steps_value) rfl
  have F : FunD K "steps_value" "steps_value" (defArgs (top 32)) (defBody (top 32)) (defScope (top 32)) [] [] (He.fAd K dd_steps_value.at_) fd := F
  refine ⟨top 32, _, fd, ["many", "where", "x", "before", "place", "found", "jumps"], _, _, F, sc_steps_value, He.glo_ok X G (c.fact 21 rfl), F.bindsN fun _ _ _ _ _ _ us hl => match us, hl with | [_, _, _, _], _ => rfl, rfl, rfl, rfl, ok_steps_value, ?_⟩
  intro p n ks hp
  match p, hp with
  | 0, hp => exact absurd hp (by simp [Tc, pkL])
  | (p + 1), hp => exact absurd hp (by simp [Tc, pkL])
theorem in_led (X : K.In h) (G : h.Ns mainGlobals mg) (c : He.SaysD faL fnL K) : FnInfo K mg Tc patD dfsD 22 "led" := by
  obtain ⟨fd, F⟩ := c.def_ 22 (d := dd_led) rfl
  have F : FunD K "led" "led" (defArgs (top 33)) (defBody (top 33)) (defScope (top 33)) [] [] (He.fAd K dd_led.at_) fd := F
  refine ⟨top 33, _, fd, ["curve", "x", "before"], _, _, F, sc_led, He.glo_ok X G (c.fact 22 rfl), F.bindsN fun _ _ _ _ _ _ us hl => match us, hl with | [_, _, _], _ => rfl, rfl, rfl, rfl, ok_led, ?_⟩
  intro p n ks hp
  match p, hp with
  | 0, hp => exact absurd hp (by simp [Tc, pkL])
  | (p + 1), hp => exact absurd hp (by simp [Tc, pkL])
theorem in_is_amount (X : K.In h) (G : h.Ns mainGlobals mg) (c : He.SaysD faL fnL K) : FnInfo K mg Tc patD dfsD 23 "is_amount" := by
  obtain ⟨fd, F⟩ := c.def_ 23 (d := dd_is_amount) rfl
  have F : FunD K "is_amount" "is_amount" (defArgs (top 37)) (defBody (top 37)) (defScope (top 37)) [] [] (He.fAd K dd_is_amount.at_) fd := F
  refine ⟨top 37, _, fd, ["thing"], _, _, F, sc_is_amount, He.glo_ok X G (c.fact 23 rfl), F.bindsN fun _ _ _ _ _ _ us hl => match us, hl with | [_], _ => rfl, rfl, rfl, rfl, ok_is_amount, ?_⟩
  intro p n ks hp
  match p, hp with
  | 0, hp => exact absurd hp (by simp [Tc, pkL])
  | (p + 1), hp => exact absurd hp (by simp [Tc, pkL])
theorem in_is_timing (X : K.In h) (G : h.Ns mainGlobals mg) (c : He.SaysD faL fnL K) : FnInfo K mg Tc patD dfsD 24 "is_timing" := by
  obtain ⟨fd, F⟩ := c.def_ 24 (d := dd_is_timing) rfl
  have F : FunD K "is_timing" "is_timing" (defArgs (top 38)) (defBody (top 38)) (defScope (top 38)) [] [] (He.fAd K dd_is_timing.at_) fd := F
  refine ⟨top 38, _, fd, ["thing", "delay", "behind", "fill", "first", "many", "length", "way", "curve"], _, _, F, sc_is_timing, He.glo_ok X G (c.fact 24 rfl), F.bindsN fun _ _ _ _ _ _ us hl => match us, hl with | [_], _ => rfl, rfl, rfl, rfl, ok_is_timing, ?_⟩
  intro p n ks hp
  match p, hp with
  | 0, hp => exact absurd hp (by simp [Tc, pkL])
  | (p + 1), hp => exact absurd hp (by simp [Tc, pkL])
theorem in_length_of (X : K.In h) (G : h.Ns mainGlobals mg) (c : He.SaysD faL fnL K) : FnInfo K mg Tc patD dfsD 25 "length_of" := by
  obtain ⟨fd, F⟩ := c.def_ 25 (d := dd_length_of) rfl
  have F : FunD K "length_of" "length_of" (defArgs (top 39)) (defBody (top 39)) (defScope (top 39)) [] [] (He.fAd K dd_length_of.at_) fd := F
  refine ⟨top 39, _, fd, ["timing"], _, _, F, sc_length_of, He.glo_ok X G (c.fact 25 rfl), F.bindsN fun _ _ _ _ _ _ us hl => match us, hl with | [_], _ => rfl, rfl, rfl, rfl, ok_length_of, ?_⟩
  intro p n ks hp
  match p, hp with
  | 0, hp => exact absurd hp (by simp [Tc, pkL])
  | (p + 1), hp => exact absurd hp (by simp [Tc, pkL])
theorem in_active_length (X : K.In h) (G : h.Ns mainGlobals mg) (c : He.SaysD faL fnL K) : FnInfo K mg Tc patD dfsD 26 "active_length" := by
  obtain ⟨fd, F⟩ := c.def_ 26 (d := dd_active_length) rfl
  have F : FunD K "active_length" "active_length" (defArgs (top 40)) (defBody (top 40)) (defScope (top 40)) [] [] (He.fAd K dd_active_length.at_) fd := F
  refine ⟨top 40, _, fd, ["timing"], _, _, F, sc_active_length, He.glo_ok X G (c.fact 26 rfl), F.bindsN fun _ _ _ _ _ _ us hl => match us, hl with | [_], _ => rfl, rfl, rfl, rfl, ok_active_length, ?_⟩
  intro p n ks hp
  match p, hp with
  | 0, hp => exact absurd hp (by simp [Tc, pkL])
  | (p + 1), hp => exact absurd hp (by simp [Tc, pkL])
theorem in_all_edges (X : K.In h) (G : h.Ns mainGlobals mg) (c : He.SaysD faL fnL K) : FnInfo K mg Tc patD dfsD 27 "all_edges" := by
  obtain ⟨fd, F⟩ := c.def_ 27 (d := dd_all_edges) rfl
  have F : FunD K "all_edges" "all_edges" (defArgs (top 41)) (defBody (top 41)) (defScope (top 41)) [] [] (He.fAd K dd_all_edges.at_) fd := F
  refine ⟨top 41, _, fd, ["timing", "active", "end", "first", "second"], _, _, F, sc_all_edges, He.glo_ok X G (c.fact 27 rfl), F.bindsN fun _ _ _ _ _ _ us hl => match us, hl with | [_], _ => rfl, rfl, rfl, rfl, ok_all_edges, ?_⟩
  intro p n ks hp
  match p, hp with
  | 0, hp => exact absurd hp (by simp [Tc, pkL])
  | (p + 1), hp => exact absurd hp (by simp [Tc, pkL])
theorem in_phase_of (X : K.In h) (G : h.Ns mainGlobals mg) (c : He.SaysD faL fnL K) : FnInfo K mg Tc patD dfsD 28 "phase_of" := by
  obtain ⟨fd, F⟩ := c.def_ 28 (d := dd_phase_of) rfl
  have F : FunD K "phase_of" "phase_of" (defArgs (top 42)) (defBody (top 42)) (defScope (top 42)) [] [] (He.fAd K dd_phase_of.at_) fd := F
  refine ⟨top 42, _, fd, ["timing", "time", "sign", "first", "second", "end"], _, _, F, sc_phase_of, He.glo_ok X G (c.fact 28 rfl), F.bindsN fun _ _ _ _ _ _ us hl => match us, hl with | [_, _, _], _ => rfl, rfl, rfl, rfl, ok_phase_of, ?_⟩
  intro p n ks hp
  match p, hp with
  | 0, hp => exact absurd hp (by simp [Tc, pkL])
  | (p + 1), hp => exact absurd hp (by simp [Tc, pkL])
theorem in_active_time (X : K.In h) (G : h.Ns mainGlobals mg) (c : He.SaysD faL fnL K) : FnInfo K mg Tc patD dfsD 29 "active_time" := by
  obtain ⟨fd, F⟩ := c.def_ 29 (d := dd_active_time) rfl
  have F : FunD K "active_time" "active_time" (defArgs (top 43)) (defBody (top 43)) (defScope (top 43)) [] [] (He.fAd K dd_active_time.at_) fd := F
  refine ⟨top 43, _, fd, ["timing", "time", "phase", "fill"], _, _, F, sc_active_time, He.glo_ok X G (c.fact 29 rfl), F.bindsN fun _ _ _ _ _ _ us hl => match us, hl with | [_, _, _, _], _ => rfl, rfl, rfl, rfl, ok_active_time, ?_⟩
  intro p n ks hp
  match p, hp with
  | 0, hp => exact absurd hp (by simp [Tc, pkL])
  | (p + 1), hp => exact absurd hp (by simp [Tc, pkL])
theorem in_overall_of (X : K.In h) (G : h.Ns mainGlobals mg) (c : He.SaysD faL fnL K) : FnInfo K mg Tc patD dfsD 30 "overall_of" := by
  obtain ⟨fd, F⟩ := c.def_ 30 (d := dd_overall_of) rfl
  have F : FunD K "overall_of" "overall_of" (defArgs (top 44)) (defBody (top 44)) (defScope (top 44)) [] [] (He.fAd K dd_overall_of.at_) fd := F
  refine ⟨top 44, _, fd, ["timing", "phase", "active", "length"], _, _, F, sc_overall_of, He.glo_ok X G (c.fact 30 rfl), F.bindsN fun _ _ _ _ _ _ us hl => match us, hl with | [_, _, _], _ => rfl, rfl, rfl, rfl, ok_overall_of, ?_⟩
  intro p n ks hp
  match p, hp with
  | 0, hp => exact absurd hp (by simp [Tc, pkL])
  | (p + 1), hp => exact absurd hp (by simp [Tc, pkL])
theorem in_simple_of (X : K.In h) (G : h.Ns mainGlobals mg) (c : He.SaysD faL fnL K) : FnInfo K mg Tc patD dfsD 31 "simple_of" := by
  obtain ⟨fd, F⟩ := c.def_ 31 (d := dd_simple_of) rfl
  have F : FunD K "simple_of" "simple_of" (defArgs (top 45)) (defBody (top 45)) (defScope (top 45)) [] [] (He.fAd K dd_simple_of.at_) fd := F
  refine ⟨top 45, _, fd, ["timing", "phase", "active", "overall", "found"], _, _, F, sc_simple_of, He.glo_ok X G (c.fact 31 rfl), F.bindsN fun _ _ _ _ _ _ us hl => match us, hl with | [_, _, _, _], _ => rfl, rfl, rfl, rfl, ok_simple_of, ?_⟩
  intro p n ks hp
  match p, hp with
  | 0, hp => exact absurd hp (by simp [Tc, pkL])
  | (p + 1), hp => exact absurd hp (by simp [Tc, pkL])
theorem in_iteration_of (X : K.In h) (G : h.Ns mainGlobals mg) (c : He.SaysD faL fnL K) : FnInfo K mg Tc patD dfsD 32 "iteration_of" := by
  obtain ⟨fd, F⟩ := c.def_ 32 (d := dd_iteration_of) rfl
  have F : FunD K "iteration_of" "iteration_of" (defArgs (top 46)) (defBody (top 46)) (defScope (top 46)) [] [] (He.fAd K dd_iteration_of.at_) fd := F
  refine ⟨top 46, _, fd, ["timing", "phase", "overall", "simple"], _, _, F, sc_iteration_of, He.glo_ok X G (c.fact 32 rfl), F.bindsN fun _ _ _ _ _ _ us hl => match us, hl with | [_, _, _, _], _ => rfl, rfl, rfl, rfl, ok_iteration_of, ?_⟩
  intro p n ks hp
  match p, hp with
  | 0, hp => exact absurd hp (by simp [Tc, pkL])
  | (p + 1), hp => exact absurd hp (by simp [Tc, pkL])
theorem in_direction_of (X : K.In h) (G : h.Ns mainGlobals mg) (c : He.SaysD faL fnL K) : FnInfo K mg Tc patD dfsD 33 "direction_of" := by
  obtain ⟨fd, F⟩ := c.def_ 33 (d := dd_direction_of) rfl
  have F : FunD K "direction_of" "direction_of" (defArgs (top 47)) (defBody (top 47)) (defScope (top 47)) [] [] (He.fAd K dd_direction_of.at_) fd := F
  refine ⟨top 47, _, fd, ["way", "iteration"], _, _, F, sc_direction_of, He.glo_ok X G (c.fact 33 rfl), F.bindsN fun _ _ _ _ _ _ us hl => match us, hl with | [_, _], _ => rfl, rfl, rfl, rfl, ok_direction_of, ?_⟩
  intro p n ks hp
  match p, hp with
  | 0, hp => exact absurd hp (by simp [Tc, pkL])
  | (p + 1), hp => exact absurd hp (by simp [Tc, pkL])
theorem in_told_in (X : K.In h) (G : h.Ns mainGlobals mg) (c : He.SaysD faL fnL K) : FnInfo K mg Tc patD dfsD 34 "told_in" := by
  obtain ⟨fd, F⟩ := c.def_ 34 (d := dd_told_in) rfl
  have F : FunD K "told_in" "told_in" (defArgs (top 48)) (defBody (top 48)) (defScope (top 48)) [] [] (He.fAd K dd_told_in.at_) fd := F
  refine ⟨top 48, _, fd, ["timing", "time", "sign", "phase", "active", "overall", "simple", "iteration", "direction", "directed", "before"], _, _, F, sc_told_in, He.glo_ok X G (c.fact 34 rfl), F.bindsN fun _ _ _ _ _ _ us hl => match us, hl with | [_, _, _], _ => rfl, rfl, rfl, rfl, ok_told_in, ?_⟩
  intro p n ks hp
  match p, hp with
  | 0, hp => exact absurd hp (by simp [Tc, pkL])
  | (p + 1), hp => exact absurd hp (by simp [Tc, pkL])
theorem in_check_timing (X : K.In h) (G : h.Ns mainGlobals mg) (c : He.SaysD faL fnL K) : FnInfo K mg Tc patD dfsD 35 "check_timing" := by
  obtain ⟨fd, F⟩ := c.def_ 35 (d := dd_check_timing) rfl
  have F : FunD K "check_timing" "check_timing" (defArgs (top 49)) (defBody (top 49)) (defScope (top 49)) [] [] (He.fAd K dd_check_timing.at_) fd := F
  refine ⟨top 49, _, fd, ["timing"], _, _, F, sc_check_timing, He.glo_ok X G (c.fact 35 rfl), F.bindsN fun _ _ _ _ _ _ us hl => match us, hl with | [_], _ => rfl, rfl, rfl, rfl, ok_check_timing, ?_⟩
  intro p n ks hp
  match p, hp with
  | 0, hp => exact absurd hp (by simp [Tc, pkL])
  | (p + 1), hp => exact absurd hp (by simp [Tc, pkL])
theorem in_told_at (X : K.In h) (G : h.Ns mainGlobals mg) (c : He.SaysD faL fnL K) : FnInfo K mg Tc patD dfsD 36 "told_at" := by
  obtain ⟨fd, F⟩ := c.def_ 36 (d := dd_told_at) rfl
  have F : FunD K "told_at" "told_at" (defArgs (top 50)) (defBody (top 50)) (defScope (top 50)) [] [] (He.fAd K dd_told_at.at_) fd := F
  refine ⟨top 50, _, fd, ["timing", "time", "sign"], _, _, F, sc_told_at, He.glo_ok X G (c.fact 36 rfl), F.bindsN fun _ _ _ _ _ _ us hl => match us, hl with | [_, _, _], _ => rfl, rfl, rfl, rfl, ok_told_at, ?_⟩
  intro p n ks hp
  match p, hp with
  | 0, hp => exact absurd hp (by simp [Tc, pkL])
  | (p + 1), hp => exact absurd hp (by simp [Tc, pkL])
theorem in_law_cell_at (X : K.In h) (G : h.Ns mainGlobals mg) (c : He.SaysD faL fnL K) : FnInfo K mg Tc patD dfsD 37 "_law_cell_at" := by
  obtain ⟨fd, F⟩ := c.def_ 37 (d := dd_law_cell_at) rfl
  have F : FunD K "_law_cell_at" "_law_cell_at" (defArgs (top 52)) (defBody (top 52)) (defScope (top 52)) [] [] (He.fAd K dd_law_cell_at.at_) fd := F
  refine ⟨top 52, _, fd, ["_law_script", "_law_k"], _, _, F, sc_law_cell_at, He.glo_ok X G (c.fact 37 rfl), F.bindsN fun _ _ _ _ _ _ us hl => match us, hl with | [_, _], _ => rfl, rfl, rfl, rfl, ok_law_cell_at, ?_⟩
  intro p n ks hp
  match p, hp with
  | 0, hp => exact absurd hp (by simp [Tc, pkL])
  | (p + 1), hp => exact absurd hp (by simp [Tc, pkL])
theorem in_law_mixed (X : K.In h) (G : h.Ns mainGlobals mg) (c : He.SaysD faL fnL K) : FnInfo K mg Tc patD dfsD 38 "_law_mixed" := by
  obtain ⟨fd, F⟩ := c.def_ 38 (d := dd_law_mixed) rfl
  have F : FunD K "_law_mixed" "_law_mixed" (defArgs (top 53)) (defBody (top 53)) (defScope (top 53)) [] [] (He.fAd K dd_law_mixed.at_) fd := F
  refine ⟨top 53, _, fd, ["_law_cell", "_law_k", "_law_low"], _, _, F, sc_law_mixed, He.glo_ok X G (c.fact 38 rfl), F.bindsN fun _ _ _ _ _ _ us hl => match us, hl with | [_, _], _ => rfl, rfl, rfl, rfl, ok_law_mixed, ?_⟩
  intro p n ks hp
  match p, hp with
  | 0, hp => exact absurd hp (by simp [Tc, pkL])
  | (p + 1), hp => exact absurd hp (by simp [Tc, pkL])
theorem in_law_source (X : K.In h) (G : h.Ns mainGlobals mg) (c : He.SaysD faL fnL K) : FnInfo K mg Tc patD dfsD 39 "_law_source" := by
  obtain ⟨fd, F⟩ := c.def_ 39 (d := dd_law_source) rfl
  have F : FunD K "_law_source" "_law_source" (defArgs (top 54)) (defBody (top 54)) (defScope (top 54)) [] [] (He.fAd K dd_law_source.at_) fd := F
  refine ⟨top 54, _, fd, ["_law_script", "_law_k", "_law_cell"], _, _, F, sc_law_source, He.glo_ok X G (c.fact 39 rfl), F.bindsN fun _ _ _ _ _ _ us hl => match us, hl with | [_, _], _ => rfl, rfl, rfl, rfl, ok_law_source, ?_⟩
  intro p n ks hp
  match p, hp with
  | 0, hp => exact absurd hp (by simp [Tc, pkL])
  | (p + 1), hp => exact absurd hp (by simp [Tc, pkL])
theorem in_law_next (X : K.In h) (G : h.Ns mainGlobals mg) (c : He.SaysD faL fnL K) : FnInfo K mg Tc patD dfsD 40 "_law_next" := by
  obtain ⟨fd, F⟩ := c.def_ 40 (d := dd_law_next) rfl
  have F : FunD K "_law_next" "_law_next" (defArgs (top 55)) (defBody (top 55)) (defScope (top 55)) [] [] (He.fAd K dd_law_next.at_) fd := F
  refine ⟨top 55, _, fd, ["_law_source_here", "_law_many", "_law_found"], _, _, F, sc_law_next, He.glo_ok X G (c.fact 40 rfl), F.bindsN fun _ _ _ _ _ _ us hl => match us, hl with | [_, _], _ => rfl, rfl, rfl, rfl, ok_law_next, ?_⟩
  intro p n ks hp
  match p, hp with
  | 0, hp => exact absurd hp (by simp [Tc, pkL])
  | (p + 1), hp => exact absurd hp (by simp [Tc, pkL])
theorem in_law_one (X : K.In h) (G : h.Ns mainGlobals mg) (c : He.SaysD faL fnL K) : FnInfo K mg Tc patD dfsD 41 "_law_one" := by
  obtain ⟨fd, F⟩ := c.def_ 41 (d := dd_law_one) rfl
  have F : FunD K "_law_one" "_law_one" (defArgs (top 56)) (defBody (top 56)) (defScope (top 56)) [] [] (He.fAd K dd_law_one.at_) fd := F
  refine ⟨top 56, _, fd, ["_law_source_here", "_law_things"], _, _, F, sc_law_one, He.glo_ok X G (c.fact 41 rfl), F.bindsN fun _ _ _ _ _ _ us hl => match us, hl with | [_, _], _ => rfl, rfl, rfl, rfl, ok_law_one, ?_⟩
  intro p n ks hp
  match p, hp with
  | 0, hp => exact absurd hp (by simp [Tc, pkL])
  | (p + 1), hp => exact absurd hp (by simp [Tc, pkL])
theorem in_law_divisor (X : K.In h) (G : h.Ns mainGlobals mg) (c : He.SaysD faL fnL K) : FnInfo K mg Tc patD dfsD 42 "_law_divisor" := by
  obtain ⟨fd, F⟩ := c.def_ 42 (d := dd_law_divisor) rfl
  have F : FunD K "_law_divisor" "_law_divisor" (defArgs (top 57)) (defBody (top 57)) (defScope (top 57)) [] [] (He.fAd K dd_law_divisor.at_) fd := F
  refine ⟨top 57, _, fd, ["_law_one_here", "_law_other"], _, _, F, sc_law_divisor, He.glo_ok X G (c.fact 42 rfl), F.bindsN fun _ _ _ _ _ _ us hl => match us, hl with | [_, _], _ => rfl, rfl, rfl, rfl, ok_law_divisor, ?_⟩
  intro p n ks hp
  match p, hp with
  | 0, hp => exact absurd hp (by simp [Tc, pkL])
  | (p + 1), hp => exact absurd hp (by simp [Tc, pkL])
theorem in_law_ratio (X : K.In h) (G : h.Ns mainGlobals mg) (c : He.SaysD faL fnL K) : FnInfo K mg Tc patD dfsD 43 "_law_ratio" := by
  obtain ⟨fd, F⟩ := c.def_ 43 (d := dd_law_ratio) rfl
  have F : FunD K "_law_ratio" "_law_ratio" (defArgs (top 58)) (defBody (top 58)) (defScope (top 58)) [] [] (He.fAd K dd_law_ratio.at_) fd := F
  refine ⟨top 58, _, fd, ["_law_top", "_law_bottom", "_law_measure"], _, _, F, sc_law_ratio, He.glo_ok X G (c.fact 43 rfl), F.bindsN fun _ _ _ _ _ _ us hl => match us, hl with | [_, _], _ => rfl, rfl, rfl, rfl, ok_law_ratio, ?_⟩
  intro p n ks hp
  match p, hp with
  | 0, hp => exact absurd hp (by simp [Tc, pkL])
  | (p + 1), hp => exact absurd hp (by simp [Tc, pkL])
theorem in_law_plus (X : K.In h) (G : h.Ns mainGlobals mg) (c : He.SaysD faL fnL K) : FnInfo K mg Tc patD dfsD 44 "_law_plus" := by
  obtain ⟨fd, F⟩ := c.def_ 44 (d := dd_law_plus) rfl
  have F : FunD K "_law_plus" "_law_plus" (defArgs (top 59)) (defBody (top 59)) (defScope (top 59)) [] [] (He.fAd K dd_law_plus.at_) fd := F
  refine ⟨top 59, _, fd, ["_law_one_here", "_law_other"], _, _, F, sc_law_plus, He.glo_ok X G (c.fact 44 rfl), F.bindsN fun _ _ _ _ _ _ us hl => match us, hl with | [_, _], _ => rfl, rfl, rfl, rfl, ok_law_plus, ?_⟩
  intro p n ks hp
  match p, hp with
  | 0, hp => exact absurd hp (by simp [Tc, pkL])
  | (p + 1), hp => exact absurd hp (by simp [Tc, pkL])
theorem in_law_minus (X : K.In h) (G : h.Ns mainGlobals mg) (c : He.SaysD faL fnL K) : FnInfo K mg Tc patD dfsD 45 "_law_minus" := by
  obtain ⟨fd, F⟩ := c.def_ 45 (d := dd_law_minus) rfl
  have F : FunD K "_law_minus" "_law_minus" (defArgs (top 60)) (defBody (top 60)) (defScope (top 60)) [] [] (He.fAd K dd_law_minus.at_) fd := F
  refine ⟨top 60, _, fd, ["_law_one_here", "_law_other"], _, _, F, sc_law_minus, He.glo_ok X G (c.fact 45 rfl), F.bindsN fun _ _ _ _ _ _ us hl => match us, hl with | [_, _], _ => rfl, rfl, rfl, rfl, ok_law_minus, ?_⟩
  intro p n ks hp
  match p, hp with
  | 0, hp => exact absurd hp (by simp [Tc, pkL])
  | (p + 1), hp => exact absurd hp (by simp [Tc, pkL])
theorem in_law_times (X : K.In h) (G : h.Ns mainGlobals mg) (c : He.SaysD faL fnL K) : FnInfo K mg Tc patD dfsD 46 "_law_times" := by
  obtain ⟨fd, F⟩ := c.def_ 46 (d := dd_law_times) rfl
  have F : FunD K "_law_times" "_law_times" (defArgs (top 61)) (defBody (top 61)) (defScope (top 61)) [] [] (He.fAd K dd_law_times.at_) fd := F
  refine ⟨top 61, _, fd, ["_law_one_here", "_law_other"], _, _, F, sc_law_times, He.glo_ok X G (c.fact 46 rfl), F.bindsN fun _ _ _ _ _ _ us hl => match us, hl with | [_, _], _ => rfl, rfl, rfl, rfl, ok_law_times, ?_⟩
  intro p n ks hp
  match p, hp with
  | 0, hp => exact absurd hp (by simp [Tc, pkL])
  | (p + 1), hp => exact absurd hp (by simp [Tc, pkL])
theorem in_law_over (X : K.In h) (G : h.Ns mainGlobals mg) (c : He.SaysD faL fnL K) : FnInfo K mg Tc patD dfsD 47 "_law_over" := by
  obtain ⟨fd, F⟩ := c.def_ 47 (d := dd_law_over) rfl
  have F : FunD K "_law_over" "_law_over" (defArgs (top 62)) (defBody (top 62)) (defScope (top 62)) [] [] (He.fAd K dd_law_over.at_) fd := F
  refine ⟨top 62, _, fd, ["_law_one_here", "_law_other"], _, _, F, sc_law_over, He.glo_ok X G (c.fact 47 rfl), F.bindsN fun _ _ _ _ _ _ us hl => match us, hl with | [_, _], _ => rfl, rfl, rfl, rfl, ok_law_over, ?_⟩
  intro p n ks hp
  match p, hp with
  | 0, hp => exact absurd hp (by simp [Tc, pkL])
  | (p + 1), hp => exact absurd hp (by simp [Tc, pkL])
theorem in_law_less (X : K.In h) (G : h.Ns mainGlobals mg) (c : He.SaysD faL fnL K) : FnInfo K mg Tc patD dfsD 48 "_law_less" := by
  obtain ⟨fd, F⟩ := c.def_ 48 (d := dd_law_less) rfl
  have F : FunD K "_law_less" "_law_less" (defArgs (top 63)) (defBody (top 63)) (defScope (top 63)) [] [] (He.fAd K dd_law_less.at_) fd := F
  refine ⟨top 63, _, fd, ["_law_one_here", "_law_other"], _, _, F, sc_law_less, He.glo_ok X G (c.fact 48 rfl), F.bindsN fun _ _ _ _ _ _ us hl => match us, hl with | [_, _], _ => rfl, rfl, rfl, rfl, ok_law_less, ?_⟩
  intro p n ks hp
  match p, hp with
  | 0, hp => exact absurd hp (by simp [Tc, pkL])
  | (p + 1), hp => exact absurd hp (by simp [Tc, pkL])
theorem in_law_part (X : K.In h) (G : h.Ns mainGlobals mg) (c : He.SaysD faL fnL K) : FnInfo K mg Tc patD dfsD 49 "_law_part" := by
  obtain ⟨fd, F⟩ := c.def_ 49 (d := dd_law_part) rfl
  have F : FunD K "_law_part" "_law_part" (defArgs (top 64)) (defBody (top 64)) (defScope (top 64)) [] [] (He.fAd K dd_law_part.at_) fd := F
  refine ⟨top 64, _, fd, ["_law_source_here", "_law_way"], _, _, F, sc_law_part, He.glo_ok X G (c.fact 49 rfl), F.bindsN fun _ _ _ _ _ _ us hl => match us, hl with | [_], _ => rfl, rfl, rfl, rfl, ok_law_part, ?_⟩
  intro p n ks hp
  match p, hp with
  | 0, hp => exact absurd hp (by simp [Tc, pkL])
  | (p + 1), hp => exact absurd hp (by simp [Tc, pkL])
theorem in_law_any_part (X : K.In h) (G : h.Ns mainGlobals mg) (c : He.SaysD faL fnL K) : FnInfo K mg Tc patD dfsD 50 "_law_any_part" := by
  obtain ⟨fd, F⟩ := c.def_ 50 (d := dd_law_any_part) rfl
  have F : FunD K "_law_any_part" "_law_any_part" (defArgs (top 65)) (defBody (top 65)) (defScope (top 65)) [] [] (He.fAd K dd_law_any_part.at_) fd := F
  refine ⟨top 65, _, fd, ["_law_source_here", "_law_found"], _, _, F, sc_law_any_part, He.glo_ok X G (c.fact 50 rfl), F.bindsN fun _ _ _ _ _ _ us hl => match us, hl with | [_], _ => rfl, rfl, rfl, rfl, ok_law_any_part, ?_⟩
  intro p n ks hp
  match p, hp with
  | 0, hp => exact absurd hp (by simp [Tc, pkL])
  | (p + 1), hp => exact absurd hp (by simp [Tc, pkL])
theorem in_law_curve (X : K.In h) (G : h.Ns mainGlobals mg) (c : He.SaysD faL fnL K) : FnInfo K mg Tc patD dfsD 51 "_law_curve" := by
  obtain ⟨fd, F⟩ := c.def_ 51 (d := dd_law_curve) rfl
  have F : FunD K "_law_curve" "_law_curve" (defArgs (top 66)) (defBody (top 66)) (defScope (top 66)) [] [] (He.fAd K dd_law_curve.at_) fd := F
  refine ⟨top 66, _, fd, ["_law_source_here", "_law_way", "_law_found", "_law_turn", "_law_where", "_law_told"], _, _, F, sc_law_curve, He.glo_ok X G (c.fact 51 rfl), F.bindsN fun _ _ _ _ _ _ us hl => match us, hl with | [_], _ => rfl, rfl, rfl, rfl, ok_law_curve, ?_⟩
  intro p n ks hp
  match p, hp with
  | 0, hp => exact absurd hp (by simp [Tc, pkL])
  | (p + 1), hp => exact absurd hp (by simp [Tc, pkL])
theorem in_law_timing (X : K.In h) (G : h.Ns mainGlobals mg) (c : He.SaysD faL fnL K) : FnInfo K mg Tc patD dfsD 52 "_law_timing" := by
  obtain ⟨fd, F⟩ := c.def_ 52 (d := dd_law_timing) rfl
  have F : FunD K "_law_timing" "_law_timing" (defArgs (top 67)) (defBody (top 67)) (defScope (top 67)) [] [] (He.fAd K dd_law_timing.at_) fd := F
  refine ⟨top 67, _, fd, ["_law_source_here", "_law_delay", "_law_behind", "_law_fill", "_law_first", "_law_many", "_law_lengths", "_law_length", "_law_way"], _, _, F, sc_law_timing, He.glo_ok X G (c.fact 52 rfl), F.bindsN fun _ _ _ _ _ _ us hl => match us, hl with | [_], _ => rfl, rfl, rfl, rfl, ok_law_timing, ?_⟩
  intro p n ks hp
  match p, hp with
  | 0, hp => exact absurd hp (by simp [Tc, pkL])
  | (p + 1), hp => exact absurd hp (by simp [Tc, pkL])
theorem in_law_added (X : K.In h) (G : h.Ns mainGlobals mg) (c : He.SaysD faL fnL K) : FnInfo K mg Tc patD dfsD 53 "_law_added" := by
  obtain ⟨fd, F⟩ := c.def_ 53 (d := dd_law_added) rfl
  have F : FunD K "_law_added" "_law_added" (defArgs (top 68)) (defBody (top 68)) (defScope (top 68)) [] [] (He.fAd K dd_law_added.at_) fd := F
  refine ⟨top 68, _, fd, ["_law_one_here", "_law_other"], _, _, F, sc_law_added, He.glo_ok X G (c.fact 53 rfl), F.bindsN fun _ _ _ _ _ _ us hl => match us, hl with | [_, _], _ => rfl, rfl, rfl, rfl, ok_law_added, ?_⟩
  intro p n ks hp
  match p, hp with
  | 0, hp => exact absurd hp (by simp [Tc, pkL])
  | (p + 1), hp => exact absurd hp (by simp [Tc, pkL])
theorem in_law_product (X : K.In h) (G : h.Ns mainGlobals mg) (c : He.SaysD faL fnL K) : FnInfo K mg Tc patD dfsD 54 "_law_product" := by
  obtain ⟨fd, F⟩ := c.def_ 54 (d := dd_law_product) rfl
  have F : FunD K "_law_product" "_law_product" (defArgs (top 69)) (defBody (top 69)) (defScope (top 69)) [] [] (He.fAd K dd_law_product.at_) fd := F
  refine ⟨top 69, _, fd, ["_law_one_here", "_law_other"], _, _, F, sc_law_product, He.glo_ok X G (c.fact 54 rfl), F.bindsN fun _ _ _ _ _ _ us hl => match us, hl with | [_, _], _ => rfl, rfl, rfl, rfl, ok_law_product, ?_⟩
  intro p n ks hp
  match p, hp with
  | 0, hp => exact absurd hp (by simp [Tc, pkL])
  | (p + 1), hp => exact absurd hp (by simp [Tc, pkL])
theorem in_law_is_less (X : K.In h) (G : h.Ns mainGlobals mg) (c : He.SaysD faL fnL K) : FnInfo K mg Tc patD dfsD 55 "_law_is_less" := by
  obtain ⟨fd, F⟩ := c.def_ 55 (d := dd_law_is_less) rfl
  have F : FunD K "_law_is_less" "_law_is_less" (defArgs (top 70)) (defBody (top 70)) (defScope (top 70)) [] [] (He.fAd K dd_law_is_less.at_) fd := F
  refine ⟨top 70, _, fd, ["_law_one_here", "_law_other"], _, _, F, sc_law_is_less, He.glo_ok X G (c.fact 55 rfl), F.bindsN fun _ _ _ _ _ _ us hl => match us, hl with | [_, _], _ => rfl, rfl, rfl, rfl, ok_law_is_less, ?_⟩
  intro p n ks hp
  match p, hp with
  | 0, hp => exact absurd hp (by simp [Tc, pkL])
  | (p + 1), hp => exact absurd hp (by simp [Tc, pkL])
theorem in_law_most (X : K.In h) (G : h.Ns mainGlobals mg) (c : He.SaysD faL fnL K) : FnInfo K mg Tc patD dfsD 56 "_law_most" := by
  obtain ⟨fd, F⟩ := c.def_ 56 (d := dd_law_most) rfl
  have F : FunD K "_law_most" "_law_most" (defArgs (top 71)) (defBody (top 71)) (defScope (top 71)) [] [] (He.fAd K dd_law_most.at_) fd := F
  refine ⟨top 71, _, fd, ["_law_one_here", "_law_other"], _, _, F, sc_law_most, He.glo_ok X G (c.fact 56 rfl), F.bindsN fun _ _ _ _ _ _ us hl => match us, hl with | [_, _], _ => rfl, rfl, rfl, rfl, ok_law_most, ?_⟩
  intro p n ks hp
  match p, hp with
  | 0, hp => exact absurd hp (by simp [Tc, pkL])
  | (p + 1), hp => exact absurd hp (by simp [Tc, pkL])
theorem in_law_least (X : K.In h) (G : h.Ns mainGlobals mg) (c : He.SaysD faL fnL K) : FnInfo K mg Tc patD dfsD 57 "_law_least" := by
  obtain ⟨fd, F⟩ := c.def_ 57 (d := dd_law_least) rfl
  have F : FunD K "_law_least" "_law_least" (defArgs (top 72)) (defBody (top 72)) (defScope (top 72)) [] [] (He.fAd K dd_law_least.at_) fd := F
  refine ⟨top 72, _, fd, ["_law_one_here", "_law_other"], _, _, F, sc_law_least, He.glo_ok X G (c.fact 57 rfl), F.bindsN fun _ _ _ _ _ _ us hl => match us, hl with | [_, _], _ => rfl, rfl, rfl, rfl, ok_law_least, ?_⟩
  intro p n ks hp
  match p, hp with
  | 0, hp => exact absurd hp (by simp [Tc, pkL])
  | (p + 1), hp => exact absurd hp (by simp [Tc, pkL])
theorem in_law_ends (X : K.In h) (G : h.Ns mainGlobals mg) (c : He.SaysD faL fnL K) : FnInfo K mg Tc patD dfsD 58 "_law_ends" := by
  obtain ⟨fd, F⟩ := c.def_ 58 (d := dd_law_ends) rfl
  have F : FunD K "_law_ends" "_law_ends" (defArgs (top 73)) (defBody (top 73)) (defScope (top 73)) [] [] (He.fAd K dd_law_ends.at_) fd := F
  refine ⟨top 73, _, fd, ["_law_timing_here", "_law_active", "_law_end", "_law_delay", "_law_behind", "_law_fill", "_law_first", "_law_many", "_law_size", "_law_way", "_law_curve_here", "_law_near", "_law_far"], _, _, F, sc_law_ends, He.glo_ok X G (c.fact 58 rfl), F.bindsN fun _ _ _ _ _ _ us hl => match us, hl with | [_], _ => rfl, rfl, rfl, rfl, ok_law_ends, ?_⟩
  intro p n ks hp
  match p, hp with
  | 0, hp => exact absurd hp (by simp [Tc, pkL])
  | (p + 1), hp => exact absurd hp (by simp [Tc, pkL])
theorem in_law_phase (X : K.In h) (G : h.Ns mainGlobals mg) (c : He.SaysD faL fnL K) : FnInfo K mg Tc patD dfsD 59 "_law_phase" := by
  obtain ⟨fd, F⟩ := c.def_ 59 (d := dd_law_phase) rfl
  have F : FunD K "_law_phase" "_law_phase" (defArgs (top 74)) (defBody (top 74)) (defScope (top 74)) [] [] (He.fAd K dd_law_phase.at_) fd := F
  refine ⟨top 74, _, fd, ["_law_timing_here", "_law_moment", "_law_sign", "_law_near", "_law_far", "_law_end", "_law_active"], _, _, F, sc_law_phase, He.glo_ok X G (c.fact 59 rfl), F.bindsN fun _ _ _ _ _ _ us hl => match us, hl with | [_, _, _], _ => rfl, rfl, rfl, rfl, ok_law_phase, ?_⟩
  intro p n ks hp
  match p, hp with
  | 0, hp => exact absurd hp (by simp [Tc, pkL])
  | (p + 1), hp => exact absurd hp (by simp [Tc, pkL])
theorem in_law_overall (X : K.In h) (G : h.Ns mainGlobals mg) (c : He.SaysD faL fnL K) : FnInfo K mg Tc patD dfsD 60 "_law_overall" := by
  obtain ⟨fd, F⟩ := c.def_ 60 (d := dd_law_overall) rfl
  have F : FunD K "_law_overall" "_law_overall" (defArgs (top 75)) (defBody (top 75)) (defScope (top 75)) [] [] (He.fAd K dd_law_overall.at_) fd := F
  refine ⟨top 75, _, fd, ["_law_timing_here", "_law_phase_here", "_law_gone"], _, _, F, sc_law_overall, He.glo_ok X G (c.fact 60 rfl), F.bindsN fun _ _ _ _ _ _ us hl => match us, hl with | [_, _, _], _ => rfl, rfl, rfl, rfl, ok_law_overall, ?_⟩
  intro p n ks hp
  match p, hp with
  | 0, hp => exact absurd hp (by simp [Tc, pkL])
  | (p + 1), hp => exact absurd hp (by simp [Tc, pkL])
theorem in_law_simple (X : K.In h) (G : h.Ns mainGlobals mg) (c : He.SaysD faL fnL K) : FnInfo K mg Tc patD dfsD 61 "_law_simple" := by
  obtain ⟨fd, F⟩ := c.def_ 61 (d := dd_law_simple) rfl
  have F : FunD K "_law_simple" "_law_simple" (defArgs (top 76)) (defBody (top 76)) (defScope (top 76)) [] [] (He.fAd K dd_law_simple.at_) fd := F
  refine ⟨top 76, _, fd, ["_law_timing_here", "_law_phase_here", "_law_gone", "_law_overall_here", "_law_part_here", "_law_is_end"], _, _, F, sc_law_simple, He.glo_ok X G (c.fact 61 rfl), F.bindsN fun _ _ _ _ _ _ us hl => match us, hl with | [_, _, _, _], _ => rfl, rfl, rfl, rfl, ok_law_simple, ?_⟩
  intro p n ks hp
  match p, hp with
  | 0, hp => exact absurd hp (by simp [Tc, pkL])
  | (p + 1), hp => exact absurd hp (by simp [Tc, pkL])
theorem in_law_moments (X : K.In h) (G : h.Ns mainGlobals mg) (c : He.SaysD faL fnL K) : FnInfo K mg Tc patD dfsD 62 "_law_moments" := by
  obtain ⟨fd, F⟩ := c.def_ 62 (d := dd_law_moments) rfl
  have F : FunD K "_law_moments" "_law_moments" (defArgs (top 77)) (defBody (top 77)) (defScope (top 77)) [] [] (He.fAd K dd_law_moments.at_) fd := F
  refine ⟨top 77, _, fd, ["_law_source_here", "_law_timing_here", "_law_found", "_law_tiny", "_law_near", "_law_far", "_law_end", "_law_active", "_law_k", "_law_one_here", "_law_share"], _, _, F, sc_law_moments, He.glo_ok X G (c.fact 62 rfl), F.bindsN fun _ _ _ _ _ _ us hl => match us, hl with | [_, _], _ => rfl, rfl, rfl, rfl, ok_law_moments, ?_⟩
  intro p n ks hp
  match p, hp with
  | 0, hp => exact absurd hp (by simp [Tc, pkL])
  | (p + 1), hp => exact absurd hp (by simp [Tc, pkL])
theorem in_law_lengthy (X : K.In h) (G : h.Ns mainGlobals mg) (c : He.SaysD faL fnL K) : FnInfo K mg Tc patD dfsD 63 "_law_lengthy" := by
  obtain ⟨fd, F⟩ := c.def_ 63 (d := dd_law_lengthy) rfl
  have F : FunD K "_law_lengthy" "_law_lengthy" (defArgs (top 78)) (defBody (top 78)) (defScope (top 78)) [] [] (He.fAd K dd_law_lengthy.at_) fd := F
  refine ⟨top 78, _, fd, ["_law_source_here", "_law_timing_here", "_law_length", "_law_many", "_law_first"], _, _, F, sc_law_lengthy, He.glo_ok X G (c.fact 63 rfl), F.bindsN fun _ _ _ _ _ _ us hl => match us, hl with | [_], _ => rfl, rfl, rfl, rfl, ok_law_lengthy, ?_⟩
  intro p n ks hp
  match p, hp with
  | 0, hp => exact absurd hp (by simp [Tc, pkL])
  | (p + 1), hp => exact absurd hp (by simp [Tc, pkL])
theorem in_law_shares_right (X : K.In h) (G : h.Ns mainGlobals mg) (c : He.SaysD faL fnL K) : FnInfo K mg Tc patD dfsD 64 "_law_shares_right" := by
  obtain ⟨fd, F⟩ := c.def_ 64 (d := dd_law_shares_right) rfl
  have F : FunD K "_law_shares_right" "_law_shares_right" (defArgs (top 79)) (defBody (top 79)) (defScope (top 79)) [] [] (He.fAd K dd_law_shares_right.at_) fd := F
  refine ⟨top 79, _, fd, ["_law_timing_here", "_law_moment", "_law_sign", "_law_found", "_law_overall_here", "_law_simple_here", "_law_phase_here", "_law_gone"], _, _, F, sc_law_shares_right, He.glo_ok X G (c.fact 64 rfl), F.bindsN fun _ _ _ _ _ _ us hl => match us, hl with | [_, _, _], _ => rfl, rfl, rfl, rfl, ok_law_shares_right, ?_⟩
  intro p n ks hp
  match p, hp with
  | 0, hp => exact absurd hp (by simp [Tc, pkL])
  | (p + 1), hp => exact absurd hp (by simp [Tc, pkL])
theorem in_law_right (X : K.In h) (G : h.Ns mainGlobals mg) (c : He.SaysD faL fnL K) : FnInfo K mg Tc patD dfsD 65 "_law_right" := by
  obtain ⟨fd, F⟩ := c.def_ 65 (d := dd_law_right) rfl
  have F : FunD K "_law_right" "_law_right" (defArgs (top 80)) (defBody (top 80)) (defScope (top 80)) [] [] (He.fAd K dd_law_right.at_) fd := F
  refine ⟨top 80, _, fd, ["_law_source_here", "_law_timing_here", "_law_moment", "_law_sign"], _, _, F, sc_law_right, He.glo_ok X G (c.fact 65 rfl), F.bindsN fun _ _ _ _ _ _ us hl => match us, hl with | [_], _ => rfl, rfl, rfl, rfl, ok_law_right, ?_⟩
  intro p n ks hp
  match p, hp with
  | 0, hp => exact absurd hp (by simp [Tc, pkL])
  | (p + 1), hp => exact absurd hp (by simp [Tc, pkL])
theorem in_law_by_hand (X : K.In h) (G : h.Ns mainGlobals mg) (c : He.SaysD faL fnL K) : FnInfo K mg Tc patD dfsD 66 "_law_by_hand" := by
  obtain ⟨fd, F⟩ := c.def_ 66 (d := dd_law_by_hand) rfl
  have F : FunD K "_law_by_hand" "_law_by_hand" (defArgs (top 81)) (defBody (top 81)) (defScope (top 81)) [] [] (He.fAd K dd_law_by_hand.at_) fd := F
  refine ⟨top 81, _, fd, ["_law_straight", "_law_some", "_law_none", "_law_rest", "_law_at_once", "_law_moment", "_law_sign"], _, _, F, sc_law_by_hand, He.glo_ok X G (c.fact 66 rfl), F.bindsN fun _ _ _ _ _ _ us hl => match us, hl with | [], _ => rfl, rfl, rfl, rfl, ok_law_by_hand, ?_⟩
  intro p n ks hp
  match p, hp with
  | 0, hp => exact absurd hp (by simp [Tc, pkL])
  | (p + 1), hp => exact absurd hp (by simp [Tc, pkL])
theorem in_law (X : K.In h) (G : h.Ns mainGlobals mg) (c : He.SaysD faL fnL K) : FnInfo K mg Tc patD dfsD 67 "law" := by
  obtain ⟨fd, F⟩ := c.def_ 67 (d := dd_law) rfl
  have F : FunD K "law" "law" (defArgs (top 82)) (defBody (top 82)) (defScope (top 82)) [] [] (He.fAd K dd_law.at_) fd := F
  refine ⟨top 82, _, fd, ["_law_script", "_law_k", "_law_source_here", "_law_turn"], _, _, F, sc_law, He.glo_ok X G (c.fact 67 rfl), F.bindsN fun _ _ _ _ _ _ us hl => match us, hl with | [_], _ => rfl, rfl, rfl, rfl, ok_law, ?_⟩
  intro p n ks hp
  match p, hp with
  | 0, hp => exact absurd hp (by simp [Tc, pkL])
  | (p + 1), hp => exact absurd hp (by simp [Tc, pkL])
theorem in_all (X : K.In h) (G : h.Ns mainGlobals mg) (c : He.SaysD faL fnL K) : ∀ j x, Tc.fns[j]? = some x → FnInfo K mg Tc patD dfsD j x :=
  fa_all (Q := fun j x => FnInfo K mg Tc patD dfsD j x) ⟨in_is_whole X G c, in_divisor X G c, in_is_fraction X G c, in_is_endless X G c, in_ratio X G c, in_plus X G c, in_minus X G c, in_product X G c, in_quotient X G c, in_less X G c, in_lesser X G c, in_greater X G c, in_floor_of X G c, in_part_of X G c, in_as_fraction X G c, in_is_point X G c, in_is_curve X G c, in_spread X G c, in_settled_points X G c, in_linear_value X G c, in_cubic_value X G c, in_steps_value X G c, in_led X G c, in_is_amount X G c, in_is_timing X G c, in_length_of X G c, in_active_length X G c, in_all_edges X G c, in_phase_of X G c, in_active_time X G c, in_overall_of X G c, in_simple_of X G c, in_iteration_of X G c, in_direction_of X G c, in_told_in X G c, in_check_timing X G c, in_told_at X G c, in_law_cell_at X G c, in_law_mixed X G c, in_law_source X G c, in_law_next X G c, in_law_one X G c, in_law_divisor X G c, in_law_ratio X G c, in_law_plus X G c, in_law_minus X G c, in_law_times X G c, in_law_over X G c, in_law_less X G c, in_law_part X G c, in_law_any_part X G c, in_law_curve X G c, in_law_timing X G c, in_law_added X G c, in_law_product X G c, in_law_is_less X G c, in_law_most X G c, in_law_least X G c, in_law_ends X G c, in_law_phase X G c, in_law_overall X G c, in_law_simple X G c, in_law_moments X G c, in_law_lengthy X G c, in_law_shares_right X G c, in_law_right X G c, in_law_by_hand X G c, in_law X G c, trivial⟩
theorem blt_all (X : K.In h) (G : h.Ns mainGlobals mg) (c : He.SaysD faL fnL K) : ∀ x, x ∈ bltNames → mg x = none := fun x hx =>
  He.free_ok X G (c.facts (List.mem_append_right _ (List.mem_map_of_mem hx)))
theorem law_fn {w : World} {f : Addr} (X : K.In h) (G : h.Ns mainGlobals mg) (hfa : mg ("law" : Str) = some (.ref f)) (c : He.SaysD faL fnL K) (cc : consB cs_all K = true) :
    ∃ fd : FuncData, (∀ (s : Shared) (v : Value), BindsTo s fd ⟨[v], []⟩ [("_law_script", v)]) ∧ ∀ base : Heap, K.In base → base.Ns mainGlobals mg → FnG PySem.Challenge.pw_framecues_k12_progress_of_all_lengths w K mg base 20 f fd ["_law_script"] (spOf K 1 (runD 20 67)) := by
  obtain ⟨fd, F⟩ := c.def_ 67 (d := dd_law) rfl
  have e := hfa.symm.trans (He.glo_ok X G (c.fact 67 rfl))
  cases e
  have b := FunD.bindsA (ps := ["_law_script"]) F fun _ _ _ _ _ _ us hl => match us, hl with | [_], _ => rfl
  refine ⟨fd, fun s v => b s [v] rfl, fun base _ _ => ?_⟩
  obtain ⟨st', f', fd', df, dvs, d1, d2, F', hm, hb, _, G'⟩ := run_ok (P := PySem.Challenge.pw_framecues_k12_progress_of_all_lengths) (w := w) (base := base) (pat := patD) (dfs := dfsD) (con := conD) (consB_ok X G cc) (blt_all X G c) (in_all X G c) 20 67 "law" rfl
  have e := hm.symm.trans (He.glo_ok X G (c.fact 67 rfl))
  cases e
  have e := fd_inj F F'
  subst e
  exact G'
end
end Fq.La
open PySem PySem.W PySem.Calls PyProof.Rows
set_option maxHeartbeats 0 in
theorem PySem.Challenge.cw_framecues_k12_progress_of_all_lengths_holds : PySem.Challenge.rw_framecues_k12_progress_of_all_lengths.Holds := by
  w_on; o_law
  refine HandSHeadRun.head_any (r := OpenLaw.row PySem.Challenge.rw_framecues_k12_progress_of_all_lengths) (q := view (OpenLaw.row PySem.Challenge.rw_framecues_k12_progress_of_all_lengths).prog [82]) (H := Fq.La.hkL) (ob := Fq.La.obL) (M := 4000) (loose := Fq.La.nmL) (d := HandSHeadRun.topDef (OpenLaw.row PySem.Challenge.rw_framecues_k12_progress_of_all_lengths).prog 82) (kwd := []) Fq.La.obL_eq
    (by kernel_rfl) (fun s => by kernel_rfl) Fq.La.runL (by kernel_rfl) (by kernel_rfl) (by kernel_rfl) (by rfl) (by first | assumption | decide +kernel) (by decide +kernel) ⟨rfl, rfl, rfl, rfl, rfl, by decide +kernel⟩ ?hw ?hc
  case hw => w_witness2
  case hc =>
    refine Fq.walk_G (l := PySem.Challenge.rw_framecues_k12_progress_of_all_lengths) (n := 63) (k := 20) (x := "_law_script") rfl (by decide) (by kernel_rfl) ⟨rfl, by decide, by decide⟩ ?F
    intro w mg fa h Y G hmg0
    obtain ⟨K, KX, c⟩ := Y
    have hmg : mg ("law" : PySem.Str) = some (.ref fa) := by
      have e : (HandSHeadRun.topDef (OpenLaw.row PySem.Challenge.rw_framecues_k12_progress_of_all_lengths).prog 82).name = ("law" : PySem.Str) := by kernel_rfl
      rw [← e]
      exact hmg0
    obtain ⟨fd, hb, hF⟩ := Fq.La.law_fn (w := w) KX G hmg c.t.d c.more
    refine ⟨K, fd, Fq.spOf K 1 (Fq.La.runD 20 67), KX, hb, fun H a ns hl hO hS => ?_, hF⟩
    obtain ⟨h', e⟩ := Fq.La.law_true ns hl
    exact ⟨rfl, [], [], _, _, h', ⟨rfl, List.nodup_nil, fun n a xs e => by simp at e⟩, Fq.script_rep hO hS, e, fun v H' m' _ _ r => by cases r; rfl⟩

