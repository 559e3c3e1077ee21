import PyProof.Rows.All
import Wide.All
import OpenK.AllK
import Wide.FinOn
import HandS.ForMost
import HandS.IsInst
import HandS.StrMore
import HandS.TupAny
import HandS.Flow
import HandS.DictComp
import HandS.More
import HandS.Small
import PySem.Challenge.RW_pastmill_k04_values
set_option Elab.async false
set_option linter.all false
set_option maxRecDepth 100000
set_option maxHeartbeats 8000000
/-! PVA: a small language over pure values, and what it means -/
namespace PV
open PySem PySem.Spec L2
open PyProof.Rows hiding St

/-- a value: tuples are values; ref: a list, a dict, an instance; clst: a list that nobody changes -/
inductive W where
  | non | bl (b : Bool) | int (i : Int) | str (x : Str) | ref (a : Addr)
  | tup (xs : List W) | clst (xs : List W)
  deriving Inhabited
inductive WO where
  | lst (xs : List W) | dct (kvs : List (Key × W)) | fdct (kvs : List (Key × W)) | ins (c : Str) (fs : List (Str × W))
abbrev GH := Addr → Option WO
def gup (G : GH) (a : Addr) (o : WO) : GH := fun b => if b = a then some o else G b
theorem gup_same {G : GH} {a : Addr} {o : WO} : gup G a o a = some o := by unfold gup; rw [if_pos rfl]
theorem gup_ne {G : GH} {a b : Addr} {o : WO} (h : b ≠ a) : gup G a o b = G b := by unfold gup; rw [if_neg h]
theorem gup_gup {G : GH} {a : Addr} {o u : WO} : gup (gup G a o) a u = gup G a u := by
  funext b; unfold gup; split <;> rfl
/-- G has no more than G' -/
def Sub (G G' : GH) : Prop := ∀ a o, G a = some o → G' a = some o
theorem Sub.refl (G : GH) : Sub G G := fun _ _ h => h
theorem Sub.trans {G G1 G2 : GH} (a : Sub G G1) (b : Sub G1 G2) : Sub G G2 := fun c o h => b c o (a c o h)
theorem Sub.gup {G : GH} {a : Addr} {o : WO} (h : G a = none) : Sub G (gup G a o) := fun b u e => by
  have : b ≠ a := fun z => by rw [z, h] at e; cases e
  rw [gup_ne this]; exact e
theorem Sub.gups {G G' : GH} {a : Addr} {o : WO} (h : Sub G G') : Sub (PV.gup G a o) (PV.gup G' a o) := fun b u e => by
  by_cases hb : b = a
  · subst hb; rw [gup_same] at e ⊢; exact e
  · rw [gup_ne hb] at e ⊢; exact h _ _ e

abbrev Sw := List (Option W)
abbrev QW := W → GH → Prop
structure Exn where
  cls : Nat
  args : List W
abbrev QX := Exn → Sw → GH → Prop
structure WEnds where
  nx : Sw → GH → Prop
  rt : QW
  bk : Sw → GH → Prop := fun _ _ => False
  ct : Sw → GH → Prop := fun _ _ => False

inductive BO where | add | sub | mul | fdiv | mod | pow
inductive CO where | eq | ne | lt | le | gt | ge | isin | notin | is | isnt
/-- types for isinstance -/
inductive TY where | int | bool | str | tuple | list | dict | non
  deriving DecidableEq
/-- built-in functions of values -/
inductive BI where | len | abs | max2 | min2 | int1 | str1 | tuple1 | sum1 | max1 | min1 | all1 | any1
/-- methods of built-in types -/
inductive BM where | strip1 | append | lpop | lpop1

mutual
inductive IE where
  | var (i : Nat) | int (i : Int) | str (x : Str) | bl (b : Bool) | non | glob (x : Str) (w : W)
  | tup (es : IEs) | dic (ps : IKs) | inG (neg : Bool) (x : Str) (kvs : List (Str × W)) (a : IE) | get2 (a k d : IE)
  | op (o : BO) (a b : IE) | neg (a : IE) | nt (a : IE) | andl (es : IEs) | orl (es : IEs)
  | cmp (o : CO) (a b : IE) | ch (o p : CO) (a b c : IE) | ife (c a b : IE)
  | ix (a i : IE) | sl (a : IE) (lo hi : IP)
  | call (f : Nat) (es : IEs) | bi (b : BI) (es : IEs) | bm (m : BM) (a : IE) (es : IEs)
  | isi (a : IE) (ts : List TY)
  | ofl (l : IL) | bil (b : BI) (l : IL) | ixl (l : IL) (i : IE) | cmpl (o : CO) (a : IE) (l : IL) | cmpll (o : CO) (l m : IL)
inductive IKs where | nil | cons (k v : IE) (r : IKs)
inductive IP where | no | ex (e : IE)
inductive IEs where | nil | cons (a : IE) (r : IEs)
/-- fresh lists -/
inductive IL where
  | disp (es : IEs)
  | comp (vs : List Nat) (tg : IG) (wk : IW) (cs : IEs) (elt : IE)
/-- what a loop walks -/
inductive IW where
  | seq (e : IE) | seql (l : IL) | rng1 (a : IE) | rng2 (a b : IE)
/-- targets -/
inductive IG where
  | nm (i : Nat) | tp (ts : IGs) | sub (a i : IE)
inductive IGs where | nil | cons (a : IG) (r : IGs)
end
mutual
inductive IS where
  | expr (e : IE) | asg (t : IG) (e : IE) | asgl (t : IG) (l : IL) | aug (i : Nat) (o : BO) (e : IE)
  | ret (e : IE) | retN | ife (c : IE) (a b : ISs) | for_ (t : IG) (wk : IW) (body : ISs) | forD (t : IG) (e : IE) (body : ISs) | whl (c : IE) (body : ISs)
  | pass | brk | cont | never
inductive ISs where | nil | cons (a : IS) (r : ISs)
end

/-! ### values -/
def brn (c : Bool) (P R : Prop) : Prop := match c with | true => P | false => R
theorem brn_i {c : Bool} {P R : Prop} (h1 : c = true → P) (h2 : c = false → R) : brn c P R := by
  cases c
  · exact h2 rfl
  · exact h1 rfl
theorem brn_t {c : Bool} {P R : Prop} (h : c = true) (h1 : P) : brn c P R := by subst h; exact h1
theorem brn_f {c : Bool} {P R : Prop} (h : c = false) (h1 : R) : brn c P R := by subst h; exact h1
theorem brn_d {c P R : Prop} [Decidable c] (h1 : c → P) (h2 : ¬ c → R) : brn (decide c) P R := by
  by_cases h : c
  · rw [decide_eq_true h]; exact h1 h
  · rw [decide_eq_false h]; exact h2 h
/-- what stands at a -/
def onG (G : GH) (a : Addr) (P : WO → Prop) : Prop := ∃ o, G a = some o ∧ P o
theorem onG_i {G : GH} {a : Addr} {P : WO → Prop} {o : WO} (h : G a = some o) (p : P o) : onG G a P := ⟨o, h, p⟩
def asInt (x : W) (P : Int → Prop) : Prop := match x with | .int i => P i | _ => False
theorem asInt_of {x : W} {P : Int → Prop} (h : asInt x P) : ∃ i, x = .int i ∧ P i := by
  cases x <;> first | exact ⟨_, rfl, h⟩ | exact h.elim
def asTup (x : W) (P : List W → Prop) : Prop := match x with | .tup i => P i | _ => False
theorem asTup_of {x : W} {P : List W → Prop} (h : asTup x P) : ∃ i, x = .tup i ∧ P i := by
  cases x <;> first | exact ⟨_, rfl, h⟩ | exact h.elim
def getv (σ : Sw) (i : Nat) (P : W → Prop) : Prop := match σ[i]? with | some (some w) => P w | _ => False
/-- a new object -/
def newo (G : GH) (o : WO) (Q : QW) : Prop := ∀ p, G p = none → Q (.ref p) (gup G p o)
def tru (x : W) (G : GH) (Q : Bool → Prop) : Prop := match x with
  | .non => Q false
  | .bl b => Q b
  | .int i => Q (i != 0)
  | .str x => x.length ≤ sizeLine ∧ Q (x.length != 0)
  | .tup xs => Q (!xs.isEmpty)
  | .clst xs => Q (!xs.isEmpty)
  | .ref a => onG G a fun o => match o with | .lst xs => Q (!xs.isEmpty) | .dct kvs => Q (!kvs.isEmpty) | .fdct _ => False | .ins _ _ => False
/-- xs[i] -/
def ixL (xs : List W) (i : Int) : Option W := match i with
  | .ofNat n => xs[n]?
  | .negSucc n => if n < xs.length then xs[xs.length - (n + 1)]? else none
def ixS (z : Str) (i : Int) : Option Str := (match i with
  | .ofNat n => z.cps.toList[n]?
  | .negSucc n => if n < z.cps.toList.length then z.cps.toList[z.cps.toList.length - (n + 1)]? else none).map fun c => ⟨#[c]⟩
def onS {α : Type} (o : Option α) (P : α → Prop) : Prop := match o with | some x => P x | none => False
theorem onS_i {α : Type} {o : Option α} {x : α} {P : α → Prop} (h : o = some x) (p : P x) : onS o P := by subst h; exact p
/-- the items of a dict -/
def keyOf : W → Option Key | .int i => some (.inl i) | .str x => some (.inr x) | _ => none
@[irreducible] def valW {κ : Type} [DecidableEq κ] (kvs : List (κ × W)) (k : κ) : Option W := (kvs.find? fun kv => decide (kv.1 = k)).map (·.2)
@[irreducible] def putW {κ : Type} [DecidableEq κ] (kvs : List (κ × W)) (k : κ) (v : W) : List (κ × W) :=
  if (kvs.any fun kv => decide (kv.1 = k)) = true then kvs.map (fun kv => if kv.1 = k then (kv.1, v) else kv) else kvs ++ [(k, v)]
def mergeW (kvs more : List (Key × W)) : List (Key × W) := more.foldl (fun acc kv => putW acc kv.1 kv.2) kvs
def keyW : Key → W | .inl i => .int i | .inr x => .str x
def opIx (x y : W) (G : GH) (Q : QW) : Prop := match x, y with
  | .tup xs, .int i => onS (ixL xs i) fun w => Q w G
  | .clst xs, .int i => onS (ixL xs i) fun w => Q w G
  | .str z, .int i => z.length ≤ sizeLine ∧ onS (ixS z i) fun c => Q (.str c) G
  | .ref a, k => onG G a fun o => match o with
    | .lst xs => asInt k fun i => onS (ixL xs i) fun w => Q w G
    | .dct kvs => onS (keyOf k) fun k => onS (valW kvs k) fun w => Q w G
    | .fdct kvs => onS (keyOf k) fun k => onS (valW kvs k) fun w => Q w G
    | .ins _ _ => False
  | _, _ => False
def setI (n : Nat) (i : Int) : Option Nat := match i with
  | .ofNat k => if k < n then some k else none
  | .negSucc k => if k < n then some (n - (k + 1)) else none
def onL (x : W) (G : GH) (P : Addr → List W → Prop) : Prop := match x with
  | .ref a => onG G a fun o => match o with | .lst xs => P a xs | _ => False
  | _ => False
def opSet (x y v : W) (G : GH) (Q : GH → Prop) : Prop := match x with
  | .ref a => onG G a fun o => match o with
    | .lst xs => asInt y fun i => onS (setI xs.length i) fun j => Q (gup G a (.lst (xs.set j v)))
    | .dct kvs => onS (keyOf y) fun k => kvs.length < sizeLine ∧ Q (gup G a (.dct (putW kvs k v)))
    | _ => False
  | _ => False
def isSeq : WO → Option (List W) | .lst xs => some xs | _ => none
def opAdd (x y : W) (G : GH) (Q : QW) : Prop := match x, y with
  | .int i, .int j => Q (.int (i + j)) G
  | .str a, .str b => a.length + b.length ≤ sizeLine ∧ Q (.str (a ++ b)) G
  | .tup xs, .tup ys => xs.length + ys.length ≤ sizeLine ∧ Q (.tup (xs ++ ys)) G
  | .ref a, .ref b => onG G a fun o => onG G b fun u => match o, u with
    | .lst xs, .lst ys => xs.length + ys.length ≤ sizeLine ∧ newo G (.lst (xs ++ ys)) Q
    | _, _ => False
  | _, _ => False
def opSub (x y : W) (G : GH) (Q : QW) : Prop := match x, y with
  | .int i, .int j => Q (.int (i - j)) G
  | _, _ => False
def opMul (x y : W) (G : GH) (Q : QW) : Prop := match x, y with
  | .int i, .int j => CMul i j ∧ Q (.int (i * j)) G
  | _, _ => False
def opFdiv (x y : W) (G : GH) (Q : QW) : Prop := match x, y with
  | .int i, .int j => CDiv i j ∧ Q (.int (i / j)) G
  | _, _ => False
def opMod (x y : W) (G : GH) (Q : QW) : Prop := match x, y with
  | .int i, .int j => 0 < j ∧ Q (.int (i % j)) G
  | _, _ => False
def opPow (x y : W) (G : GH) (Q : QW) : Prop := match x, y with
  | .int i, .int j => CPow i j ∧ Q (.int (i ^ j.toNat)) G
  | _, _ => False
/-- the in-place form: numbers, texts -/
def opAug (o : BO) (x y : W) (G : GH) (Q : QW) : Prop := match o with
  | .add => (match x, y with | .int i, .int j => Q (.int (i + j)) G | .str a, .str b => a.length + b.length ≤ sizeLine ∧ Q (.str (a ++ b)) G | _, _ => False)
  | .sub => opSub x y G Q
  | .mul => opMul x y G Q
  | _ => False
def opB (o : BO) (x y : W) (G : GH) (Q : QW) : Prop := match o with
  | .add => opAdd x y G Q | .sub => opSub x y G Q | .mul => opMul x y G Q | .fdiv => opFdiv x y G Q | .mod => opMod x y G Q | .pow => opPow x y G Q

/-! ### equality by data -/
mutual
inductive IsD (G : GH) : W → PyData → Prop
  | non : IsD G .non .none
  | bl (b : Bool) : IsD G (.bl b) (.bool b)
  | int (i : Int) : IsD G (.int i) (.int i)
  | str (x : Str) : IsD G (.str x) (.str x)
  | tup {ws : List W} {ds : List PyData} : IsDs G ws ds → IsD G (.tup ws) (.tuple ds)
  | clst {ws : List W} {ds : List PyData} : IsDs G ws ds → IsD G (.clst ws) (.list ds)
  | lst {a : Addr} {ws : List W} {ds : List PyData} : G a = some (.lst ws) → IsDs G ws ds → IsD G (.ref a) (.list ds)
inductive IsDs (G : GH) : List W → List PyData → Prop
  | nil : IsDs G [] []
  | cons {w : W} {ws : List W} {d : PyData} {ds : List PyData} : IsD G w d → IsDs G ws ds → IsDs G (w :: ws) (d :: ds)
end
/-- two values compared by == -/
def eqD (x y : W) (G : GH) (P : Bool → Prop) : Prop := ∃ d e, IsD G x d ∧ IsD G y e ∧ SeqAt.shaped d = true ∧ SeqAt.shaped e = true ∧ P (PyData.eqv d e)
/-- flat things: equal as values -/
def flatW : W → Bool | .non | .int _ | .str _ | .bl _ => true | _ => false
/-- two dicts with the same flat values -/
def eqDct (a b : Addr) (G : GH) (P : Bool → Prop) : Prop := ∃ ks ls, G a = some (.dct ks) ∧ G b = some (.dct ls) ∧ ks.length = ls.length ∧ (∀ p ∈ ks, valW ls p.1 = some p.2 ∧ flatW p.2 = true) ∧ P true
def opEq (x y : W) (G : GH) (P : Bool → Prop) : Prop := match x, y with
  | .int i, .int j => P (decide (i = j))
  | .str i, .str j => P (decide (i = j))
  | .bl i, .bl j => P (decide (i = j))
  | .ref a, .ref b => eqD (.ref a) (.ref b) G P ∨ eqDct a b G P
  | x, y => eqD x y G P
def opLt (x y : W) (G : GH) (P : Bool → Prop) : Prop := match x, y with
  | .int i, .int j => P (decide (i < j))
  | .str i, .str j => P (decide (i.cps.toList < j.cps.toList))
  | _, _ => False
def opLe (x y : W) (G : GH) (P : Bool → Prop) : Prop := match x, y with
  | .int i, .int j => P (decide (i ≤ j))
  | .str i, .str j => P (!decide (j.cps.toList < i.cps.toList))
  | _, _ => False
def isNon : W → Bool | .non => true | _ => false
def toV : W → V | .non => .non | .int i => .int i | .str x => .str x | .bl b => .bl b | _ => .non
def inW (x : W) (xs : List W) : Bool := inV (toV x) (xs.map toV)
def opIn (x y : W) (G : GH) (P : Bool → Prop) : Prop := match y with
  | .tup xs => flatW x = true ∧ xs.all flatW = true ∧ P (inW x xs)
  | .clst xs => flatW x = true ∧ xs.all flatW = true ∧ P (inW x xs)
  | .ref a => onG G a fun o => match o with
    | .lst xs => flatW x = true ∧ xs.all flatW = true ∧ P (inW x xs)
    | .dct kvs => onS (keyOf x) fun k => P (valW kvs k).isSome
    | .fdct kvs => onS (keyOf x) fun k => P (valW kvs k).isSome
    | .ins _ _ => False
  | _ => False
def opC (o : CO) (x y : W) (G : GH) (P : Bool → Prop) : Prop := match o with
  | .eq => opEq x y G P
  | .ne => opEq x y G fun b => P (!b)
  | .lt => opLt x y G P
  | .le => opLe x y G P
  | .gt => opLt y x G P
  | .ge => opLe y x G P
  | .isin => opIn x y G P
  | .notin => opIn x y G fun b => P (!b)
  | .is => match y with | .non => P (isNon x) | _ => False
  | .isnt => match y with | .non => P (!isNon x) | _ => False
/-- which types a value is of -/
def tyIs (x : W) (G : GH) (P : TY → Prop) : Prop := match x with
  | .non => P .non | .bl _ => P .bool | .int _ => P .int | .str _ => P .str | .tup _ => P .tuple | .clst _ => P .list
  | .ref a => onG G a fun o => match o with | .lst _ => P .list | .dct _ => P .dict | .fdct _ => False | .ins _ _ => False
/-- a type within another -/
def tySub (t u : TY) : Bool := decide (t = u) || (match t, u with | .bool, .int => true | _, _ => false)
def iso (x : W) (ts : List TY) (G : GH) (P : Bool → Prop) : Prop := tyIs x G fun t => P (ts.any fun u => tySub t u)
def seqOf (x : W) (G : GH) (P : List W → Prop) : Prop := match x with
  | .tup xs => P xs | .clst xs => P xs
  | .ref a => onG G a fun o => match o with | .lst xs => P xs | _ => False
  | _ => False
def lstOf (x : W) (G : GH) (P : List W → Prop) : Prop := match x with
  | .clst xs => P xs
  | .ref a => onG G a fun o => match o with | .lst xs => P xs | _ => False
  | _ => False
def lenOf (x : W) (G : GH) (P : Nat → Prop) : Prop := match x with
  | .str z => z.length ≤ sizeLine ∧ P z.length
  | .tup xs => P xs.length | .clst xs => P xs.length
  | .ref a => onG G a fun o => match o with | .lst xs => P xs.length | .dct kvs => P kvs.length | .fdct _ => False | .ins _ _ => False
  | _ => False
def intsW : List W → Option (List Int)
  | [] => some []
  | .int i :: r => (intsW r).map (i :: ·)
  | _ :: _ => none
def blsW : List W → Option (List Bool)
  | [] => some []
  | .bl i :: r => (blsW r).map (i :: ·)
  | _ :: _ => none
def maxL : Int → List Int → Int | m, [] => m | m, x :: r => maxL (if x > m then x else m) r
def minL : Int → List Int → Int | m, [] => m | m, x :: r => minL (if x < m then x else m) r
/-- built-ins of one list, by its items -/
def biL (b : BI) (xs : List W) (Q : W → Prop) : Prop := match b with
  | .len => Q (.int xs.length)
  | .tuple1 => Q (.tup xs)
  | .sum1 => onS (intsW xs) fun ns => Q (.int ns.sum)
  | .all1 => onS (blsW xs) fun bs => Q (.bl (bs.all id))
  | .any1 => onS (blsW xs) fun bs => Q (.bl (bs.any id))
  | .max1 => onS (intsW xs) fun ns => match ns with | [] => False | n :: r => Q (.int (maxL n r))
  | .min1 => onS (intsW xs) fun ns => match ns with | [] => False | n :: r => Q (.int (minL n r))
  | _ => False
def bi1 (ws : List W) (P : W → Prop) : Prop := match ws with | [x] => P x | _ => False
def bi2i (ws : List W) (P : Int → Int → Prop) : Prop := match ws with | [.int i, .int j] => P i j | _ => False
def toInt (x : W) (P : Int → Prop) : Prop := match x with | .int i => P i | .bl b => P (if b then 1 else 0) | _ => False
def biF (b : BI) (ws : List W) (G : GH) (Q : QW) : Prop := match b with
  | .len => bi1 ws fun x => lenOf x G fun n => Q (.int n) G
  | .abs => bi1 ws fun x => asInt x fun i => Q (.int (if i < 0 then -i else i)) G
  | .max2 => bi2i ws fun i j => Q (.int (if j > i then j else i)) G
  | .min2 => bi2i ws fun i j => Q (.int (if j < i then j else i)) G
  | .int1 => bi1 ws fun x => toInt x fun i => Q (.int i) G
  | .str1 => bi1 ws fun x => asInt x fun i => i.natAbs.log2 < 1920 ∧ Q (.str (toString i)) G
  | .tuple1 => bi1 ws fun x => seqOf x G fun xs => Q (.tup xs) G
  | .sum1 => bi1 ws fun x => lstOf x G fun xs => biL .sum1 xs fun w => Q w G
  | .max1 => bi1 ws fun x => lstOf x G fun xs => biL .max1 xs fun w => Q w G
  | .min1 => bi1 ws fun x => lstOf x G fun xs => biL .min1 xs fun w => Q w G
  | .all1 => bi1 ws fun x => lstOf x G fun xs => biL .all1 xs fun w => Q w G
  | .any1 => bi1 ws fun x => lstOf x G fun xs => biL .any1 xs fun w => Q w G
/-- d.get(k, x) -/
def isDct (x : W) (G : GH) (P : Prop) : Prop := match x with
  | .ref a => onG G a fun o => match o with | .dct _ => P | .fdct _ => P | _ => False
  | _ => False
def opGet (x y z : W) (G : GH) (Q : QW) : Prop := match x with
  | .ref a => onG G a fun o => match o with
    | .dct kvs => onS (keyOf y) fun k => Q ((valW kvs k).getD z) G
    | .fdct kvs => onS (keyOf y) fun k => Q ((valW kvs k).getD z) G
    | _ => False
  | _ => False
def bmF (m : BM) (x : W) (ws : List W) (G : GH) (Q : QW) : Prop := match m with
  | .strip1 => (match x, ws with | .str a, [.str b] => a.length ≤ sizeLine ∧ Q (.str (Txt.stripChars a b)) G | _, _ => False)
  | .append => onL x G fun a xs => bi1 ws fun w => xs.length < sizeLine ∧ Q .non (gup G a (.lst (xs ++ [w])))
  | .lpop => onL x G fun a xs => (match ws with | [] => onS (xs[xs.length - 1]?) fun w => Q w (gup G a (.lst xs.dropLast)) | _ => False)
  | .lpop1 => onL x G fun a xs => bi1 ws fun w => asInt w fun i => onS (seqIndex? i xs.length) fun k => -(2 ^ 63) ≤ i ∧ i < 2 ^ 63 ∧ onS (xs[k]?) fun w => Q w (gup G a (.lst (xs.eraseIdx k)))
/-- the receiver's type, ahead of the arguments -/
def bmTy (m : BM) (x : W) (G : GH) (P : Prop) : Prop := match m with
  | .strip1 => (match x with | .str _ => P | _ => False)
  | .append | .lpop | .lpop1 => (match x with | .ref a => onG G a fun o => (match o with | .lst _ => P | _ => False) | _ => False)
/-- slices: a part that is left out, an int -/
def cutL {α : Type} (xs : List α) (lo hi : Option Int) : List α :=
  (xs.drop (HT.sIx xs.length 0 lo)).take (HT.sIx xs.length xs.length hi - HT.sIx xs.length 0 lo)
def opSl (x : W) (lo hi : Option Int) (G : GH) (Q : QW) : Prop := match x with
  | .str z => z.length ≤ sizeLine ∧ Q (.str ⟨(cutL z.cps.toList lo hi).toArray⟩) G
  | .tup xs => Q (.tup (cutL xs lo hi)) G
  | .clst xs => newo G (.lst (cutL xs lo hi)) Q
  | .ref a => onG G a fun o => match o with | .lst xs => newo G (.lst (cutL xs lo hi)) Q | _ => False
  | _ => False
/-- what a for walks: the items; what has to stand still -/
def rngW (lo : Int) (n : Nat) : List W := (List.range n).map fun (i : Nat) => .int (lo + (i : Int))
def signsW (x : Str) : List W := x.cps.toList.map fun c => .str ⟨#[c]⟩
def walkOf (x : W) (G : GH) (R : List W → (GH → Prop) → Prop) : Prop := match x with
  | .tup xs => R xs fun _ => True
  | .clst xs => R xs fun _ => True
  | .str z => R (signsW z) fun _ => True
  | .ref a => onG G a fun o => match o with | .lst xs => R xs (fun G' => G' a = some (.lst xs)) | _ => False
  | _ => False
def rngOk (i : Int) : Prop := -(2 ^ 62) ≤ i ∧ i < 2 ^ 62

/-! ### loops -/
abbrev Step1 := W → Sw → GH → (Sw → GH → Prop) → Prop
/-- a for over the items -/
def forW0 (still : GH → Prop) (tg : Step1) (body : WEnds → Sw → GH → Prop) (D : WEnds) : List W → Sw → GH → Prop
  | [], σ, G => still G ∧ D.nx σ G
  | x :: r, σ, G => still G ∧ tg x σ G fun σ1 G1 =>
      body { D with nx := forW0 still tg body D r, ct := forW0 still tg body D r, bk := D.nx } σ1 G1
@[irreducible] def forW (still : GH → Prop) (tg : Step1) (body : WEnds → Sw → GH → Prop) (D : WEnds) (xs : List W) (σ : Sw) (G : GH) : Prop := forW0 still tg body D xs σ G
def whlW0 (test : Sw → GH → (Bool → GH → Prop) → Prop) (body : WEnds → Sw → GH → Prop) (D : WEnds) : Nat → Sw → GH → Prop
  | 0, _, _ => False
  | n + 1, σ, G => test σ G fun c G1 => brn c
      (body { D with nx := whlW0 test body D n, ct := whlW0 test body D n, bk := D.nx } σ G1) (D.nx σ G1)
@[irreducible] def whlW (test : Sw → GH → (Bool → GH → Prop) → Prop) (body : WEnds → Sw → GH → Prop) (D : WEnds) (n : Nat) (σ : Sw) (G : GH) : Prop := whlW0 test body D n σ G
def wipeW (σ : Sw) : List Nat → Sw
  | [] => σ
  | v :: vs => (wipeW σ vs).set v none
/-- a comprehension over the items -/
def compW0 (still : GH → Prop) (tg : Step1) (test : Sw → GH → (Bool → GH → Prop) → Prop) (elt : Sw → GH → QW → Prop) (Q : List W → GH → Prop) (σ : Sw) : List W → List W → GH → Prop
  | [], acc, G => still G ∧ Q acc G
  | x :: r, acc, G => still G ∧ tg x σ G fun σ1 G1 => test σ1 G1 fun c G2 => brn c
      (elt σ1 G2 fun w G3 => acc.length < sizeLine ∧ compW0 still tg test elt Q σ r (acc ++ [w]) G3)
      (compW0 still tg test elt Q σ r acc G2)
@[irreducible] def compW (still : GH → Prop) (tg : Step1) (test : Sw → GH → (Bool → GH → Prop) → Prop) (elt : Sw → GH → QW → Prop) (Q : List W → GH → Prop) (σ : Sw) (xs acc : List W) (G : GH) : Prop := compW0 still tg test elt Q σ xs acc G
section
variable {still : GH → Prop} {tg : Step1} {body : WEnds → Sw → GH → Prop} {D : WEnds} {σ : Sw} {G : GH} {x : W} {r : List W} {test : Sw → GH → (Bool → GH → Prop) → Prop} {elt : Sw → GH → QW → Prop} {Q : List W → GH → Prop} {acc : List W} {n : Nat}
theorem forW_nil : forW still tg body D [] σ G = (still G ∧ D.nx σ G) := by unfold forW; rfl
theorem forW_cons : forW still tg body D (x :: r) σ G = (still G ∧ tg x σ G fun σ1 G1 => body { D with nx := forW still tg body D r, ct := forW still tg body D r, bk := D.nx } σ1 G1) := by unfold forW; rfl
theorem whlW_zero : whlW test body D 0 σ G = False := by unfold whlW; rfl
theorem whlW_succ : whlW test body D (n + 1) σ G = (test σ G fun c G1 => brn c (body { D with nx := whlW test body D n, ct := whlW test body D n, bk := D.nx } σ G1) (D.nx σ G1)) := by unfold whlW; rfl
theorem compW_nil : compW still tg test elt Q σ [] acc G = (still G ∧ Q acc G) := by unfold compW; rfl
theorem compW_cons : compW still tg test elt Q σ (x :: r) acc G = (still G ∧ tg x σ G fun σ1 G1 => test σ1 G1 fun c G2 => brn c
      (elt σ1 G2 fun w G3 => acc.length < sizeLine ∧ compW still tg test elt Q σ r (acc ++ [w]) G3)
      (compW still tg test elt Q σ r acc G2)) := by unfold compW; rfl
end

def lenG : IGs → Nat | .nil => 0 | .cons _ r => lenG r + 1
abbrev Rec := Nat → List W → GH → QW → (Exn → GH → Prop) → Prop
/-- what an expression means, as a value, as a test -/
structure Sm where
  v : Sw → GH → QW → Prop
  t : Sw → GH → (Bool → GH → Prop) → Prop
def Sm.of (v : Sw → GH → QW → Prop) : Sm := ⟨v, fun σ G R => v σ G fun x G1 => tru x G1 fun k => R k G1⟩
section
variable (rec : Rec) (ex : QX)
mutual
def sm : IE → Sm
  | .var i => .of fun σ G Q => getv σ i fun w => Q w G
  | .int i => .of fun _ G Q => Q (.int i) G
  | .str x => .of fun _ G Q => Q (.str x) G
  | .bl b => .of fun _ G Q => Q (.bl b) G
  | .non => .of fun _ G Q => Q .non G
  | .glob _ w => .of fun _ G Q => Q w G
  | .tup es => .of fun σ G Q => evs es σ G fun ws G1 => ws.length ≤ sizeLine ∧ Q (.tup ws) G1
  | .dic ps => .of fun σ G Q => evKV ps σ G fun ps G1 => ps.length ≤ 15 ∧ newo G1 (.dct (mergeW [] ps)) Q
  | .inG n _ kvs a => .of fun σ G Q => (sm a).v σ G fun x G1 => (match x with | .str z => Q (.bl (if n then !(valW kvs z).isSome else (valW kvs z).isSome)) G1 | _ => False)
  | .get2 a k d => .of fun σ G Q => (sm a).v σ G fun x G1 => isDct x G1 ((sm k).v σ G1 fun y G2 => (sm d).v σ G2 fun z G3 => opGet x y z G3 Q)
  | .op o a b => .of fun σ G Q => (sm a).v σ G fun x G1 => (sm b).v σ G1 fun y G2 => opB o x y G2 Q
  | .neg a => .of fun σ G Q => (sm a).v σ G fun x G1 => asInt x fun i => Q (.int (-i)) G1
  | .nt a => ⟨fun σ G Q => (sm a).v σ G fun x G1 => tru x G1 fun c => Q (.bl (!c)) G1, fun σ G R => (sm a).t σ G fun c G1 => R (!c) G1⟩
  | .andl es => smAnd es
  | .orl es => smOr es
  | .cmp o a b => ⟨fun σ G Q => (sm a).v σ G fun x G1 => (sm b).v σ G1 fun y G2 => opC o x y G2 fun c => Q (.bl c) G2,
      fun σ G R => (sm a).v σ G fun x G1 => (sm b).v σ G1 fun y G2 => opC o x y G2 fun c => R c G2⟩
  | .ch o p a b c => ⟨fun σ G Q => (sm a).v σ G fun x G1 => (sm b).v σ G1 fun y G2 => opC o x y G2 fun k => brn k ((sm c).v σ G2 fun z G3 => opC p y z G3 fun c => Q (.bl c) G3) (Q (.bl false) G2),
      fun σ G R => (sm a).v σ G fun x G1 => (sm b).v σ G1 fun y G2 => opC o x y G2 fun k => brn k ((sm c).v σ G2 fun z G3 => opC p y z G3 fun c => R c G3) (R false G2)⟩
  | .ife c a b => .of fun σ G Q => (sm c).t σ G fun k G1 => brn k ((sm a).v σ G1 Q) ((sm b).v σ G1 Q)
  | .ix a i => .of fun σ G Q => (sm a).v σ G fun x G1 => (sm i).v σ G1 fun y G2 => opIx x y G2 Q
  | .sl a lo hi => .of fun σ G Q => (sm a).v σ G fun x G1 => evPart lo σ G1 fun l G2 => evPart hi σ G2 fun h G3 => opSl x l h G3 Q
  | .call f es => .of fun σ G Q => evs es σ G fun ws G1 => rec f ws G1 Q fun x G2 => ex x σ G2
  | .bi b es => .of fun σ G Q => evs es σ G fun ws G1 => biF b ws G1 Q
  | .bm m a es => .of fun σ G Q => (sm a).v σ G fun x G1 => bmTy m x G1 (evs es σ G1 fun ws G2 => bmF m x ws G2 Q)
  | .isi a ts => .of fun σ G Q => (sm a).v σ G fun x G1 => iso x ts G1 fun c => Q (.bl c) G1
  | .ofl l => .of fun σ G Q => evl l σ G fun ws G1 => newo G1 (.lst ws) Q
  | .bil b l => .of fun σ G Q => evl l σ G fun ws G1 => biL b ws fun w => Q w G1
  | .ixl l i => .of fun σ G Q => evl l σ G fun ws G1 => (sm i).v σ G1 fun y G2 => asInt y fun i => onS (ixL ws i) fun w => Q w G2
  | .cmpl o a l => ⟨fun σ G Q => (sm a).v σ G fun x G1 => evl l σ G1 fun ws G2 => opC o x (.clst ws) G2 fun c => Q (.bl c) G2,
      fun σ G R => (sm a).v σ G fun x G1 => evl l σ G1 fun ws G2 => opC o x (.clst ws) G2 fun c => R c G2⟩
  | .cmpll o l m => ⟨fun σ G Q => evl l σ G fun us G1 => evl m σ G1 fun ws G2 => opC o (.clst us) (.clst ws) G2 fun c => Q (.bl c) G2,
      fun σ G R => evl l σ G fun us G1 => evl m σ G1 fun ws G2 => opC o (.clst us) (.clst ws) G2 fun c => R c G2⟩
def evs : IEs → Sw → GH → (List W → GH → Prop) → Prop
  | .nil, _, G, Q => Q [] G
  | .cons a r, σ, G, Q => (sm a).v σ G fun x G1 => evs r σ G1 fun xs G2 => Q (x :: xs) G2
/-- the pairs of a dict's display -/
def evKV : IKs → Sw → GH → (List (Key × W) → GH → Prop) → Prop
  | .nil, _, G, Q => Q [] G
  | .cons k v r, σ, G, Q => (sm k).v σ G fun x G1 => onS (keyOf x) fun key => (sm v).v σ G1 fun y G2 => evKV r σ G2 fun ps G3 => Q ((key, y) :: ps) G3
def smAnd : IEs → Sm
  | .nil => ⟨fun _ _ _ => False, fun _ _ _ => False⟩
  | .cons a r => match r with
    | .nil => sm a
    | .cons _ _ => ⟨fun σ G Q => (sm a).v σ G fun x G1 => tru x G1 fun c => brn c ((smAnd r).v σ G1 Q) (Q x G1), fun σ G R => (sm a).t σ G fun c G1 => brn c ((smAnd r).t σ G1 R) (R false G1)⟩
def smOr : IEs → Sm
  | .nil => ⟨fun _ _ _ => False, fun _ _ _ => False⟩
  | .cons a r => match r with
    | .nil => sm a
    | .cons _ _ => ⟨fun σ G Q => (sm a).v σ G fun x G1 => tru x G1 fun c => brn c (Q x G1) ((smOr r).v σ G1 Q), fun σ G R => (sm a).t σ G fun c G1 => brn c (R true G1) ((smOr r).t σ G1 R)⟩
/-- a part of a slice -/
def evPart : IP → Sw → GH → (Option Int → GH → Prop) → Prop
  | .no, _, G, Q => Q none G
  | .ex e, σ, G, Q => (sm e).v σ G fun x G1 => asInt x fun i => Q (some i) G1
/-- a fresh list, by its items -/
def evl : IL → Sw → GH → (List W → GH → Prop) → Prop
  | .disp es, σ, G, Q => evs es σ G fun ws G1 => ws.length ≤ sizeLine ∧ Q ws G1
  | .comp vs tg wk cs elt, σ, G, Q => evw wk σ G fun items still G1 =>
      compW still (evg tg) (fun σ1 G2 R => evTests cs σ1 G2 R) (fun σ1 G2 R => (sm elt).v σ1 G2 R) Q (wipeW σ vs) items [] G1
/-- tests of a comprehension: none, or one -/
def evTests : IEs → Sw → GH → (Bool → GH → Prop) → Prop
  | .nil, _, G, R => R true G
  | .cons c _, σ, G, R => (sm c).t σ G R
def evw : IW → Sw → GH → (List W → (GH → Prop) → GH → Prop) → Prop
  | .seq e, σ, G, R => (sm e).v σ G fun x G1 => walkOf x G1 fun xs st => R xs st G1
  | .seql l, σ, G, R => evl l σ G fun ws G1 => R ws (fun _ => True) G1
  | .rng1 a, σ, G, R => (sm a).v σ G fun x G1 => asInt x fun j => rngOk j ∧ R (rngW 0 j.toNat) (fun _ => True) G1
  | .rng2 a b, σ, G, R => (sm a).v σ G fun x G1 => (sm b).v σ G1 fun y G2 => asInt x fun i => asInt y fun j => rngOk i ∧ rngOk j ∧ R (rngW i (j - i).toNat) (fun _ => True) G2
/-- an assignment to a target -/
def evg : IG → W → Sw → GH → (Sw → GH → Prop) → Prop
  | .nm i, w, σ, G, Q => Q (σ.set i (some w)) G
  | .tp ts, w, σ, G, Q => asTup w fun ws => ws.length = lenG ts ∧ evgs ts ws σ G Q
  | .sub a i, w, σ, G, Q => (sm a).v σ G fun x G1 => (sm i).v σ G1 fun y G2 => opSet x y w G2 fun G3 => Q σ G3
def evgs : IGs → List W → Sw → GH → (Sw → GH → Prop) → Prop
  | .nil, ws, σ, G, Q => match ws with | [] => Q σ G | _ => False
  | .cons t r, ws, σ, G, Q => match ws with | w :: us => evg t w σ G fun σ1 G1 => evgs r us σ1 G1 Q | [] => False
end
abbrev ev (e : IE) : Sw → GH → QW → Prop := (sm rec ex e).v
abbrev evT (e : IE) : Sw → GH → (Bool → GH → Prop) → Prop := (sm rec ex e).t
/-- a locked dict -/
def walkD (x : W) (G : GH) (P : Addr → List (Key × W) → Prop) : Prop := match x with
  | .ref a => onG G a fun o => match o with | .fdct kvs => P a kvs | _ => False
  | _ => False
/-- the ends of what is done while the dict at a is locked -/
def lockE (a : Addr) (kvs : List (Key × W)) (D : WEnds) : WEnds :=
  ⟨fun σ' G' => G' a = some (.fdct kvs) ∧ D.nx σ' (gup G' a (.dct kvs)), fun w G' => G' a = some (.fdct kvs) ∧ D.rt w (gup G' a (.dct kvs)), fun σ' G' => G' a = some (.fdct kvs) ∧ D.bk σ' (gup G' a (.dct kvs)), fun σ' G' => G' a = some (.fdct kvs) ∧ D.ct σ' (gup G' a (.dct kvs))⟩
mutual
def evS : IS → WEnds → Sw → GH → Prop
  | .expr e, D, σ, G => ev rec ex e σ G fun _ G1 => D.nx σ G1
  | .asg t e, D, σ, G => ev rec ex e σ G fun w G1 => evg rec ex t w σ G1 D.nx
  | .asgl t l, D, σ, G => evl rec ex l σ G fun ws G1 => newo G1 (.lst ws) fun w G2 => evg rec ex t w σ G2 D.nx
  | .aug i o e, D, σ, G => getv σ i fun x => ev rec ex e σ G fun y G1 => opAug o x y G1 fun z G2 => D.nx (σ.set i (some z)) G2
  | .ret e, D, σ, G => ev rec ex e σ G D.rt
  | .retN, D, _, G => D.rt .non G
  | .ife c a b, D, σ, G => evT rec ex c σ G fun k G1 => brn k (evSs a D σ G1) (evSs b D σ G1)
  | .for_ t wk body, D, σ, G => evw rec ex wk σ G fun items still G1 => forW still (evg rec ex t) (fun D σ G => evSs body D σ G) D items σ G1
  | .forD t e body, D, σ, G => ∃ a kvs, G a = some (.dct kvs) ∧ ev rec ex e σ (gup G a (.fdct kvs)) fun x G1 => walkD x G1 fun b ks => forW (fun G => G b = some (.fdct ks)) (evg rec ex t) (fun D σ G => evSs body D σ G) (lockE a kvs D) (ks.map fun kv => keyW kv.1) σ G1
  | .whl c body, D, σ, G => ∃ n, whlW (evT rec ex c) (fun D σ G => evSs body D σ G) D n σ G
  | .pass, D, σ, G => D.nx σ G
  | .brk, D, σ, G => D.bk σ G
  | .cont, D, σ, G => D.ct σ G
  | .never, _, _, _ => False
def evSs : ISs → WEnds → Sw → GH → Prop
  | .nil, D, σ, G => D.nx σ G
  | .cons a r, D, σ, G => evS a { D with nx := evSs r D } σ G
end
end
/-- a def: parameters, slots, its body -/
structure FR where
  name : Str
  np : Nat
  ns : Nat
  body : ISs
def startW (r : FR) (ws : List W) : Sw := ws.map some ++ List.replicate (r.ns - ws.length) none
/-- the call of a def, by so many levels -/
def evF (tb : Nat → Option FR) : Nat → Rec
  | 0, _, _, _, _, _ => False
  | k + 1, f, ws, G, Q, E => onS (tb f) fun r => ws.length = r.np ∧
      evSs (evF tb k) (fun x _ G' => E x G') r.body
        { nx := fun _ G' => ∃ G1, Sub G1 G' ∧ Q .non G1, rt := fun w G' => ∃ G1, Sub G1 G' ∧ Q w G1 } (startW r ws) G
end PV
/-! PVB: the values over the hand layer's heap -/
namespace PV
open PySem PySem.Spec L2
open PyProof.Rows hiding St

def FzL (K : PySem.W.Frag) (H : Hp) (a : Addr) (xs : List V) : Prop := (∃ o, H a = some (.frz o (.lst xs))) ∨
  ∃ (o : Obj) (its : Array Value) (n : Nat), K.lookup a = some o ∧ o.cls = .type "list" ∧ o.dict = none ∧ o.data = .seq its n ∧ its.size ≤ sizeLine ∧ Vals xs its.toList
theorem FzL.seq {K : PySem.W.Frag} {H : Hp} {a : Addr} {xs : List V} (h : FzL K H a xs) : SqL K H a xs := by
  rcases h with ⟨o, h⟩ | h
  · exact .inl (.inr ⟨o, h⟩)
  · exact .inr h
mutual
inductive Rep (K : PySem.W.Frag) (H : Hp) : W → V → Prop
  | non : Rep K H .non .non
  | bl (b : Bool) : Rep K H (.bl b) (.bl b)
  | int (i : Int) : Rep K H (.int i) (.int i)
  | str (x : Str) : Rep K H (.str x) (.str x)
  | ref (a : Addr) : Rep K H (.ref a) (.ref a)
  | tup {a : Addr} {vs : List V} {ws : List W} : SqT K H a vs → Reps K H ws vs → Rep K H (.tup ws) (.ref a)
  | clst {a : Addr} {vs : List V} {ws : List W} : FzL K H a vs → Reps K H ws vs → Rep K H (.clst ws) (.ref a)
inductive Reps (K : PySem.W.Frag) (H : Hp) : List W → List V → Prop
  | nil : Reps K H [] []
  | cons {w : W} {ws : List W} {v : V} {vs : List V} : Rep K H w v → Reps K H ws vs → Reps K H (w :: ws) (v :: vs)
end
section
variable {K : PySem.W.Frag} {H H' : Hp}
/-- constant things -/
def Cst : HO → Prop | .lst _ => True | .tup _ => True | _ => False
structure Kept (H H' : Hp) : Prop where
  tup : ∀ a xs, H a = some (.tup xs) → H' a = some (.tup xs)
  frz : ∀ a o u, Cst u → H a = some (.frz o u) → H' a = some (.frz o u)
theorem SqT.kept {a : Addr} {xs : List V} (k : Kept H H') (h : SqT K H a xs) : SqT K H' a xs := by
  rcases h with (h | ⟨o, h⟩) | h
  · exact .inl (.inl (k.tup _ _ h))
  · exact .inl (.inr ⟨o, k.frz _ _ _ trivial h⟩)
  · exact .inr h
theorem FzL.kept {a : Addr} {xs : List V} (k : Kept H H') (h : FzL K H a xs) : FzL K H' a xs := by
  rcases h with ⟨o, h⟩ | h
  · exact .inl ⟨o, k.frz _ _ _ trivial h⟩
  · exact .inr h
mutual
theorem Rep.kept (k : Kept H H') : ∀ {w : W} {v : V}, Rep K H w v → Rep K H' w v
  | _, _, .non => .non
  | _, _, .bl b => .bl b
  | _, _, .int i => .int i
  | _, _, .str x => .str x
  | _, _, .ref a => .ref a
  | _, _, .tup h r => .tup (SqT.kept k h) (Reps.kept k r)
  | _, _, .clst h r => .clst (FzL.kept k h) (Reps.kept k r)
theorem Reps.kept (k : Kept H H') : ∀ {ws : List W} {vs : List V}, Reps K H ws vs → Reps K H' ws vs
  | _, _, .nil => .nil
  | _, _, .cons h r => .cons (Rep.kept k h) (Reps.kept k r)
end
theorem Reps.length : ∀ {ws : List W} {vs : List V}, Reps K H ws vs → ws.length = vs.length
  | _, _, .nil => rfl
  | _, _, .cons _ r => by rw [List.length_cons, List.length_cons, Reps.length r]
theorem Reps.get : ∀ {ws : List W} {vs : List V} {i : Nat} {w : W}, Reps K H ws vs → ws[i]? = some w → ∃ v, vs[i]? = some v ∧ Rep K H w v
  | _, _, _, _, .nil, e => by simp at e
  | _, _, 0, _, .cons h _, e => by simp at e; subst e; exact ⟨_, rfl, h⟩
  | _, _, i + 1, w, .cons _ r, e => by
    obtain ⟨v, h1, h2⟩ := Reps.get (i := i) (w := w) r (by simpa using e)
    exact ⟨v, by simpa using h1, h2⟩
theorem Reps.append : ∀ {ws us : List W} {vs xs : List V}, Reps K H ws vs → Reps K H us xs → Reps K H (ws ++ us) (vs ++ xs)
  | _, _, _, _, .nil, s => s
  | _, _, _, _, .cons h r, s => .cons h (Reps.append r s)
theorem Reps.set {w : W} {v : V} (h : Rep K H w v) : ∀ {ws : List W} {vs : List V} (i : Nat), Reps K H ws vs → Reps K H (ws.set i w) (vs.set i v)
  | _, _, _, .nil => .nil
  | _, _, 0, .cons _ t => .cons h t
  | _, _, i + 1, .cons q t => .cons q (Reps.set h i t)
theorem Reps.take : ∀ {ws : List W} {vs : List V} (n : Nat), Reps K H ws vs → Reps K H (ws.take n) (vs.take n)
  | _, _, 0, _ => .nil
  | _, _, _ + 1, .nil => .nil
  | _, _, n + 1, .cons r t => .cons r (Reps.take n t)
theorem Reps.drop : ∀ {ws : List W} {vs : List V} (n : Nat), Reps K H ws vs → Reps K H (ws.drop n) (vs.drop n)
  | _, _, 0, r => r
  | _, _, _ + 1, .nil => .nil
  | _, _, n + 1, .cons _ t => Reps.drop n t
theorem Reps.eraseIdx : ∀ {ws : List W} {vs : List V} (n : Nat), Reps K H ws vs → Reps K H (ws.eraseIdx n) (vs.eraseIdx n)
  | _, _, _, .nil => .nil
  | _, _, 0, .cons _ t => t
  | _, _, n + 1, .cons r t => .cons r (Reps.eraseIdx n t)
theorem Reps.dropLast : ∀ {ws : List W} {vs : List V}, Reps K H ws vs → Reps K H ws.dropLast vs.dropLast
  | _, _, .nil => .nil
  | _, _, .cons _ .nil => .nil
  | _, _, .cons h (.cons h2 r) => .cons h (Reps.dropLast (.cons h2 r))
theorem Reps.ints : ∀ {ws : List W} {vs : List V} {ns : List Int}, Reps K H ws vs → intsW ws = some ns → vs = ns.map V.int
  | _, _, _, .nil, e => by simp [intsW] at e; subst e; rfl
  | _, _, ns, .cons h r, e => by
    cases h <;> simp only [intsW] at e <;> try (cases e; done)
    rename_i ws vs i
    cases q : intsW ws with
    | none => rw [q] at e; simp at e
    | some ms =>
      rw [q] at e; simp at e; subst e
      rw [Reps.ints r q]; rfl
theorem Reps.bls : ∀ {ws : List W} {vs : List V} {ns : List Bool}, Reps K H ws vs → blsW ws = some ns → vs = ns.map V.bl
  | _, _, _, .nil, e => by simp [blsW] at e; subst e; rfl
  | _, _, ns, .cons h r, e => by
    cases h <;> simp only [blsW] at e <;> try (cases e; done)
    rename_i ws vs i
    cases q : blsW ws with
    | none => rw [q] at e; simp at e
    | some ms =>
      rw [q] at e; simp at e; subst e
      rw [Reps.bls r q]; rfl

/-! ### the heap -/
abbrev RepKV (K : PySem.W.Frag) (H : Hp) {κ : Type} (kvs : List (κ × W)) (us : List (κ × V)) : Prop := Paired (fun p q => p.1 = q.1 ∧ Rep K H p.2 q.2) kvs us
theorem RepKV.kept {κ : Type} (k : Kept H H') {kvs : List (κ × W)} {us : List (κ × V)} (r : RepKV K H kvs us) : RepKV K H' kvs us := by
  induction r with
  | nil => exact .nil
  | cons h t ih => exact .cons ⟨h.1, h.2.kept k⟩ ih
theorem RepKV.len {κ : Type} {kvs : List (κ × W)} {us : List (κ × V)} (r : RepKV K H kvs us) : kvs.length = us.length := Paired.length r
/-- an object, and what stands for it -/
inductive OR (K : PySem.W.Frag) (H : Hp) : WO → HO → Prop
  | lst {ws : List W} {vs : List V} : Reps K H ws vs → OR K H (.lst ws) (.lst vs)
  | dct {kvs : List (Key × W)} {us : List (Key × V)} : RepKV K H kvs us → OR K H (.dct kvs) (.dK us)
  | fdct {kvs : List (Key × W)} {us : List (Key × V)} {o : Obj} : RepKV K H kvs us → OR K H (.fdct kvs) (.frz o (.dK us))
  | ins {c : Str} {C dx : Addr} {fs : List (Str × W)} {us : List (Str × V)} : PySem.W.nsIn K mainGlobals c = some (some (.ref C)) → RepKV K H fs us → OR K H (.ins c fs) (.ins C dx us)
theorem OR.kept {o : WO} {u : HO} (k : Kept H H') (r : OR K H o u) : OR K H' o u := by
  cases r with
  | lst r => exact .lst (r.kept k)
  | dct r => exact .dct (RepKV.kept k r)
  | fdct r => exact .fdct (RepKV.kept k r)
  | ins h r => exact .ins h (RepKV.kept k r)
def ObR (K : PySem.W.Frag) (H : Hp) (a : Addr) (o : WO) : Prop := ∃ u, H a = some u ∧ OR K H o u
def RH (K : PySem.W.Frag) (G : GH) (H : Hp) : Prop := ∀ a o, G a = some o → ObR K H a o
structure Stp (K : PySem.W.Frag) (G : GH) (H : Hp) (G' : GH) (H' : Hp) : Prop where
  hid : ∀ a o, H a = some o → G a = none → H' a = some o ∧ G' a = none
  rh : RH K G' H'
  frz : ∀ a o u, H a = some (.frz o u) → H' a = some (.frz o u)
/-- .. but for p -/
structure StpX (K : PySem.W.Frag) (p : Addr) (G : GH) (H : Hp) (G' : GH) (H' : Hp) : Prop where
  hid : ∀ a o, a ≠ p → H a = some o → G a = none → H' a = some o ∧ G' a = none
  rh : RH K G' H'
  frz : ∀ a o u, H a = some (.frz o u) → H' a = some (.frz o u)
theorem RH.free {G : GH} (r : RH K G H) {a : Addr} (h : H a = none) : G a = none := by
  cases e : G a with
  | none => rfl
  | some o =>
    obtain ⟨u, q, _⟩ := r a o e
    rw [h] at q; cases q
theorem RH.tup {G : GH} (r : RH K G H) {a : Addr} {xs : List V} (h : H a = some (.tup xs)) : G a = none := by
  cases e : G a with
  | none => rfl
  | some o =>
    obtain ⟨u, q, x⟩ := r a o e
    rw [h] at q; cases q; cases x
theorem Stp.kept {G G' : GH} (r : RH K G H) (s : Stp K G H G' H') : Kept H H' :=
  ⟨fun a xs h => (s.hid a _ h (r.tup h)).1, fun a o u _ h => s.frz a o u h⟩
theorem Stp.refl {G : GH} (r : RH K G H) : Stp K G H G H := ⟨fun _ _ h g => ⟨h, g⟩, r, fun _ _ _ h => h⟩
theorem Stp.trans {G G1 G2 : GH} {H1 H2 : Hp} (s : Stp K G H G1 H1) (t : Stp K G1 H1 G2 H2) : Stp K G H G2 H2 :=
  ⟨fun a o h g => let ⟨h1, g1⟩ := s.hid a o h g; t.hid a o h1 g1, t.rh, fun a o u h => t.frz a o u (s.frz a o u h)⟩
theorem Stp.less {G G1 G2 : GH} {H1 : Hp} (s : Stp K G H G1 H1) (t : Sub G2 G1) : Stp K G H G2 H1 := by
  refine ⟨fun a o h g => ?_, fun a o e => s.rh a o (t a o e), s.frz⟩
  obtain ⟨h1, g1⟩ := s.hid a o h g
  refine ⟨h1, ?_⟩
  cases q : G2 a with
  | none => rfl
  | some u => rw [t a u q] at g1; cases g1
theorem ObR.kept {a : Addr} {o : WO} (k : Kept H H') (e : ∀ u, H a = some u → H' a = some u) (q : ObR K H a o) : ObR K H' a o :=
  let ⟨u, h, r⟩ := q; ⟨u, e u h, r.kept k⟩
theorem frz_new {p : Addr} {o : HO} (h : H p = none) : ∀ a o' u, H a = some (.frz o' u) → upd H p o a = some (.frz o' u) := fun a o u e => by rw [upd_ne (ne_of_none e h)]; exact e
theorem Kept.new {p : Addr} {o : HO} (h : H p = none) : Kept H (upd H p o) :=
  ⟨fun a xs e => by rw [upd_ne (ne_of_none e h)]; exact e, fun a o u _ e => frz_new h a o u e⟩
/-- a thing that can change -/
def Mov : HO → Prop | .tup _ => False | .frz _ _ => False | _ => True
theorem frz_mov {p : Addr} {u v : HO} (h : H p = some u) (m : Mov u) : ∀ a o' w, H a = some (.frz o' w) → upd H p v a = some (.frz o' w) := fun a o w e => by
  rw [upd_ne (ne_of e h (by intro z; subst z; exact m))]; exact e
theorem Kept.mov {p : Addr} {u v : HO} (h : H p = some u) (m : Mov u) : Kept H (upd H p v) := by
  refine ⟨fun a zs e => ?_, fun a o w _ e => frz_mov h m a o w e⟩
  rw [upd_ne (ne_of e h (by intro z; subst z; exact m))]; exact e
theorem Kept.lst {p : Addr} {xs ys : List V} (h : H p = some (.lst xs)) : Kept H (upd H p (.lst ys)) := Kept.mov h trivial
/-- a new object that G doesn't see -/
theorem Stp.newH {G : GH} {p : Addr} {o : HO} (r : RH K G H) (h : H p = none) : Stp K G H G (upd H p o) :=
  ⟨fun a u e g => ⟨by rw [upd_ne (ne_of_none e h)]; exact e, g⟩, fun a u e => (r a u e).kept (Kept.new h) fun v q => by rw [upd_ne (ne_of_none q h)]; exact q, frz_new h⟩
/-- a new object -/
theorem Stp.newO {G : GH} {p : Addr} {o : WO} {u : HO} (r : RH K G H) (h : H p = none) (q : OR K H o u) : Stp K G H (gup G p o) (upd H p u) := by
  refine ⟨fun a u e g => ?_, fun a u e => ?_, frz_new h⟩
  · have n := ne_of_none e h
    exact ⟨by rw [upd_ne n]; exact e, by rw [gup_ne n]; exact g⟩
  · by_cases hb : a = p
    · subst hb; rw [gup_same] at e; cases e
      exact ⟨_, upd_same, q.kept (Kept.new h)⟩
    · rw [gup_ne hb] at e
      exact (r a u e).kept (Kept.new h) fun v q => by rw [upd_ne (ne_of_none q h)]; exact q
theorem Stp.newL {G : GH} {p : Addr} {ws : List W} {vs : List V} (r : RH K G H) (h : H p = none) (q : Reps K H ws vs) : Stp K G H (gup G p (.lst ws)) (upd H p (.lst vs)) := .newO r h (.lst q)
theorem Stp.newD {G : GH} {p : Addr} (r : RH K G H) (h : H p = none) : Stp K G H (gup G p (.dct [])) (upd H p (.dK [])) := .newO r h (.dct .nil)
/-- an object is changed -/
theorem Stp.setO {G : GH} {p : Addr} {o o' : WO} {u u' : HO} (r : RH K G H) (g : G p = some o) (h : H p = some u) (m : Mov u) (q : OR K H o' u') : Stp K G H (gup G p o') (upd H p u') := by
  refine ⟨fun a u e z => ?_, fun a u e => ?_, frz_mov h m⟩
  · have n : a ≠ p := fun y => by rw [y, g] at z; cases z
    exact ⟨by rw [upd_ne n]; exact e, by rw [gup_ne n]; exact z⟩
  · by_cases hb : a = p
    · subst hb; rw [gup_same] at e; cases e
      exact ⟨_, upd_same, q.kept (Kept.mov h m)⟩
    · rw [gup_ne hb] at e
      exact (r a u e).kept (Kept.mov h m) fun v q => by rw [upd_ne hb]; exact q
theorem Stp.setL {G : GH} {p : Addr} {us ws : List W} {xs vs : List V} (r : RH K G H) (g : G p = some (.lst us)) (h : H p = some (.lst xs)) (q : Reps K H ws vs) : Stp K G H (gup G p (.lst ws)) (upd H p (.lst vs)) := .setO r g h trivial (.lst q)
theorem ObR.lst_ {a : Addr} {ws : List W} (h : ObR K H a (.lst ws)) : ∃ vs, H a = some (.lst vs) ∧ Reps K H ws vs := by
  obtain ⟨u, h, r⟩ := h
  cases r with | lst r => exact ⟨_, h, r⟩
theorem ObR.dct_ {a : Addr} {ws : List (Key × W)} (h : ObR K H a (.dct ws)) : ∃ vs, H a = some (.dK vs) ∧ RepKV K H ws vs := by
  obtain ⟨u, h, r⟩ := h
  cases r with | dct r => exact ⟨_, h, r⟩
theorem ObR.fdct_ {a : Addr} {ws : List (Key × W)} (h : ObR K H a (.fdct ws)) : ∃ o vs, H a = some (.frz o (.dK vs)) ∧ RepKV K H ws vs := by
  obtain ⟨u, h, r⟩ := h
  cases r with | fdct r => exact ⟨_, _, h, r⟩
theorem ObR.ins_ {a : Addr} {c : Str} {ws : List (Str × W)} (h : ObR K H a (.ins c ws)) : ∃ C dx vs, H a = some (.ins C dx vs) ∧ PySem.W.nsIn K mainGlobals c = some (some (.ref C)) ∧ RepKV K H ws vs := by
  obtain ⟨u, h, r⟩ := h
  cases r with | ins x r => exact ⟨_, _, _, h, x, r⟩
/-- the dict at d is locked, what is done then, and it is open again -/
theorem Stp.lock {G : GH} {d : Addr} {kvs : List (Key × W)} {us : List (Key × V)} {od : Obj} (r : RH K G H) (g : G d = some (.dct kvs)) (h : H d = some (.dK us)) : Stp K G H (gup G d (.fdct kvs)) (upd H d (.frz od (.dK us))) := by
  obtain ⟨vs, h2, q⟩ := (r d _ g).dct_
  rw [h] at h2; cases h2
  exact .setO r g h trivial (.fdct q)
theorem Kept.unlock {d : Addr} {us : List (Key × V)} {od : Obj} {u : HO} (e1 : H d = some (.frz od (.dK us))) : Kept H (upd H d u) := by
  refine ⟨fun b zs z => ?_, fun b o w c z => ?_⟩
  · rw [upd_ne (ne_of z e1 (by intro y; cases y))]; exact z
  · rw [upd_ne (ne_of z e1 (by intro y; cases y; exact c))]; exact z
theorem Stp.unlock {G G' : GH} {d : Addr} {kvs : List (Key × W)} {us : List (Key × V)} {od : Obj} (r : RH K G H) (g : G d = some (.dct kvs)) (h : H d = some (.dK us)) (s : Stp K (gup G d (.fdct kvs)) (upd H d (.frz od (.dK us))) G' H') (g' : G' d = some (.fdct kvs)) :
    H' d = some (.frz od (.dK us)) ∧ Stp K G H (gup G' d (.dct kvs)) (upd H' d (.dK us)) := by
  have e1 : H' d = some (.frz od (.dK us)) := s.frz d od _ upd_same
  refine ⟨e1, fun a u e z => ?_, fun a u e => ?_, fun a o u e => ?_⟩
  · have n : a ≠ d := fun y => by rw [y, g] at z; cases z
    obtain ⟨p1, p2⟩ := s.hid a u (by rw [upd_ne n]; exact e) (by rw [gup_ne n]; exact z)
    exact ⟨by rw [upd_ne n]; exact p1, by rw [gup_ne n]; exact p2⟩
  · have kp : Kept H' (upd H' d (.dK us)) := Kept.unlock e1
    by_cases hb : a = d
    · subst hb; rw [gup_same] at e; cases e
      obtain ⟨o2, vs, q1, q2⟩ := (s.rh a _ g').fdct_
      rw [e1] at q1; cases q1
      exact ⟨_, upd_same, .dct (RepKV.kept kp q2)⟩
    · rw [gup_ne hb] at e
      exact (s.rh a u e).kept kp fun v q => by rw [upd_ne hb]; exact q
  · have n : a ≠ d := fun y => by rw [y, h] at e; cases e
    rw [upd_ne n]
    exact s.frz a o u (by rw [upd_ne n]; exact e)
/-- a hidden object is seen from now on; it was not there when all began -/
theorem Stp.openO {G : GH} {p : Addr} {o' : WO} {u u' : HO} (r : RH K G H) (g : G p = none) (h : H p = some u) (m : Mov u) (q : OR K H o' u') : StpX K p G H (gup G p o') (upd H p u') := by
  refine ⟨fun a u n e z => ?_, fun a u e => ?_, frz_mov h m⟩
  · exact ⟨by rw [upd_ne n]; exact e, by rw [gup_ne n]; exact z⟩
  · by_cases hb : a = p
    · subst hb; rw [gup_same] at e; cases e
      exact ⟨_, upd_same, q.kept (Kept.mov h m)⟩
    · rw [gup_ne hb] at e
      exact (r a u e).kept (Kept.mov h m) fun v q => by rw [upd_ne hb]; exact q
theorem Stp.skip {G G1 G2 : GH} {H1 H2 : Hp} {p : Addr} (s : Stp K G H G1 H1) (h : H p = none) (t : StpX K p G1 H1 G2 H2) : Stp K G H G2 H2 :=
  ⟨fun a o e g => let ⟨h1, g1⟩ := s.hid a o e g; t.hid a o (fun z => by subst z; rw [h] at e; cases e) h1 g1, t.rh, fun a o u e => t.frz a o u (s.frz a o u e)⟩
theorem Rep.stp {G G' : GH} {w : W} {v : V} (q : Rep K H w v) (r : RH K G H) (s : Stp K G H G' H') : Rep K H' w v := q.kept (s.kept r)
theorem Reps.stp {G G' : GH} {w : List W} {v : List V} (q : Reps K H w v) (r : RH K G H) (s : Stp K G H G' H') : Reps K H' w v := q.kept (s.kept r)

/-! ### slots -/
structure Sl (K : PySem.W.Frag) (H : Hp) (σw : Sw) (σ : L2.St) : Prop where
  len : σw.length = σ.length
  at_ : ∀ (i : Nat) w, σw[i]? = some (some w) → ∃ v, σ[i]? = some (some v) ∧ Rep K H w v
theorem Sl.kept {σw : Sw} {σ : L2.St} (s : Sl K H σw σ) (k : Kept H H') : Sl K H' σw σ :=
  ⟨s.len, fun i w e => let ⟨v, h, r⟩ := s.at_ i w e; ⟨v, h, r.kept k⟩⟩
theorem Sl.stp {G G' : GH} {σw : Sw} {σ : L2.St} (s : Sl K H σw σ) (r : RH K G H) (t : Stp K G H G' H') : Sl K H' σw σ := s.kept (t.kept r)
theorem Sl.set {σw : Sw} {σ : L2.St} (s : Sl K H σw σ) (i : Nat) {w : W} {v : V} (r : Rep K H w v) : Sl K H (σw.set i (some w)) (σ.set i (some v)) := by
  refine ⟨by rw [List.length_set, List.length_set]; exact s.len, fun j u e => ?_⟩
  by_cases hj : i = j
  · subst hj
    by_cases hl : i < σw.length
    · rw [List.getElem?_set_self hl] at e
      cases e
      exact ⟨v, List.getElem?_set_self (by rw [← s.len]; exact hl), r⟩
    · rw [List.getElem?_eq_none (by rw [List.length_set]; omega)] at e; cases e
  · rw [List.getElem?_set_ne hj] at e ⊢
    exact s.at_ j u e
theorem Sl.wipe1 {σw : Sw} {σ : L2.St} (s : Sl K H σw σ) (i : Nat) : Sl K H (σw.set i none) (σ.set i none) := by
  refine ⟨by rw [List.length_set, List.length_set]; exact s.len, fun j u e => ?_⟩
  by_cases hj : i = j
  · subst hj
    by_cases hl : i < σw.length
    · rw [List.getElem?_set_self hl] at e; cases e
    · rw [List.getElem?_eq_none (by rw [List.length_set]; omega)] at e; cases e
  · rw [List.getElem?_set_ne hj] at e ⊢
    exact s.at_ j u e
theorem Sl.wipe {σw : Sw} {σ : L2.St} (s : Sl K H σw σ) : ∀ vs : List Nat, Sl K H (wipeW σw vs) (L2.wipe σ vs)
  | [] => s
  | v :: vs => (Sl.wipe s vs).wipe1 v
end

/-! ### lifted readings -/
/-- what follows, said over values -/
def Kt (K : PySem.W.Frag) (G : GH) (H : Hp) (Qw : QW) (Q : VK) : Prop := ∀ w G' v H', Qw w G' → Stp K G H G' H' → Rep K H' w v → Q v H'
def KtB (K : PySem.W.Frag) (G : GH) (H : Hp) (Qw : Bool → GH → Prop) (Q : Bool → Hp → Prop) : Prop := ∀ c G' H', Qw c G' → Stp K G H G' H' → Q c H'
def LE (K : PySem.W.Frag) (t : Sw → GH → QW → Prop) : TE := fun σ H Q => ∃ σw G Qw, Sl K H σw σ ∧ RH K G H ∧ t σw G Qw ∧ Kt K G H Qw Q
def LT (K : PySem.W.Frag) (t : Sw → GH → (Bool → GH → Prop) → Prop) : TT := fun σ H Q => ∃ σw G Qw, Sl K H σw σ ∧ RH K G H ∧ t σw G Qw ∧ KtB K G H Qw Q
def LA (K : PySem.W.Frag) (t : Sw → GH → (List W → GH → Prop) → Prop) : TA := fun σ H Q => ∃ σw G Qw, Sl K H σw σ ∧ RH K G H ∧ t σw G Qw ∧
  ∀ ws G' vs H', Qw ws G' → Stp K G H G' H' → Reps K H' ws vs → Q vs H'
/-- a fresh list, that G doesn't see -/
def LL (K : PySem.W.Frag) (t : Sw → GH → (List W → GH → Prop) → Prop) : TE := fun σ H Q => ∃ σw G Qw, Sl K H σw σ ∧ RH K G H ∧ t σw G Qw ∧
  ∀ ws G' vs H' D, Qw ws G' → Stp K G H G' H' → (∀ o, H D = some o → G D ≠ none) → H' D = some (.lst vs) → G' D = none → Reps K H' ws vs → Q (.ref D) H'
structure EdOk (K : PySem.W.Frag) (G : GH) (H : Hp) (Dw : WEnds) (D : Ends) : Prop where
  nx : ∀ σw G' σ H', Dw.nx σw G' → Stp K G H G' H' → Sl K H' σw σ → D.nx σ H'
  rt : Kt K G H Dw.rt D.rt
  bk : ∀ σw G' σ H', Dw.bk σw G' → Stp K G H G' H' → Sl K H' σw σ → D.bk σ H'
  ct : ∀ σw G' σ H', Dw.ct σw G' → Stp K G H G' H' → Sl K H' σw σ → D.ct σ H'
def LS (K : PySem.W.Frag) (t : WEnds → Sw → GH → Prop) : TS := fun D σ H => ∃ σw G Dw, Sl K H σw σ ∧ RH K G H ∧ t Dw σw G ∧ EdOk K G H Dw D
theorem EdOk.stp {K : PySem.W.Frag} {G G1 : GH} {H H1 : Hp} {Dw : WEnds} {D : Ends} (e : EdOk K G H Dw D) (s : Stp K G H G1 H1) : EdOk K G1 H1 Dw D :=
  ⟨fun σw G' σ H' q t l => e.nx σw G' σ H' q (s.trans t) l, fun w G' v H' q t r => e.rt w G' v H' q (s.trans t) r,
   fun σw G' σ H' q t l => e.bk σw G' σ H' q (s.trans t) l, fun σw G' σ H' q t l => e.ct σw G' σ H' q (s.trans t) l⟩
theorem Kt.stp {K : PySem.W.Frag} {G G1 : GH} {H H1 : Hp} {Qw : QW} {Q : VK} (e : Kt K G H Qw Q) (s : Stp K G H G1 H1) : Kt K G1 H1 Qw Q := fun w G' v H' q t r => e w G' v H' q (s.trans t) r
theorem KtB.stp {K : PySem.W.Frag} {G G1 : GH} {H H1 : Hp} {Qw : Bool → GH → Prop} {Q : Bool → Hp → Prop} (e : KtB K G H Qw Q) (s : Stp K G H G1 H1) : KtB K G1 H1 Qw Q := fun w G' H' q t => e w G' H' q (s.trans t)
theorem peMono {X : Cx} {e : Expr} {t t' : TE} (h : PE X e t) (m : ∀ σ H Q, t' σ H Q → t σ H Q) : PE X e t' := ⟨fun pins s σ H Q I q => h.run pins s σ H Q I (m σ H Q q)⟩
theorem ptMono {X : Cx} {e : Expr} {t t' : TT} (h : PT X e t) (m : ∀ σ H Q, t' σ H Q → t σ H Q) : PT X e t' := ⟨fun pins s σ H Q I q => h.run pins s σ H Q I (m σ H Q q)⟩
theorem paMono {X : Cx} {e : List Expr} {t t' : TA} (h : PA X e t) (m : ∀ σ H Q, t' σ H Q → t σ H Q) : PA X e t' := ⟨fun pos pins s σ H Q I q => h.run pos pins s σ H Q I (m σ H Q q)⟩
theorem psMono {X : Cx} {e : Stmt} {t t' : TS} (h : PS X e t) (m : ∀ D σ H, t' D σ H → t D σ H) : PS X e t' := ⟨fun pins s σ H D I q => h.run pins s σ H D I (m D σ H q)⟩
theorem pssMono {X : Cx} {e : List Stmt} {t t' : TS} (h : PSs X e t) (m : ∀ D σ H, t' D σ H → t D σ H) : PSs X e t' := ⟨fun pins s σ H D I q => h.run pins s σ H D I (m D σ H q)⟩
theorem pgMono {X : Cx} {e : Expr} {t t' : TG} (h : PG X e t) (m : ∀ v σ H Q, t' v σ H Q → t v σ H Q) : PG X e t' := ⟨fun pins s σ H v u Q I r q => h.run pins s σ H v u Q I r (m v σ H Q q)⟩
/-- the fresh list at D is seen from now on -/
theorem Stp.show_ {K : PySem.W.Frag} {G G' : GH} {H H' : Hp} {D : Addr} {ws : List W} {vs : List V} (s : Stp K G H G' H') (hn : ∀ o, H D = some o → G D ≠ none) (hd : H' D = some (.lst vs)) (r : Reps K H' ws vs) : Stp K G H (gup G' D (.lst ws)) H' := by
  refine ⟨fun a o h g => ?_, fun a o e => ?_, s.frz⟩
  · obtain ⟨h1, g1⟩ := s.hid a o h g
    have n : a ≠ D := fun z => by subst z; exact hn o h g
    exact ⟨h1, by rw [gup_ne n]; exact g1⟩
  · by_cases hb : a = D
    · subst hb; rw [gup_same] at e; cases e
      exact ⟨_, hd, .lst r⟩
    · rw [gup_ne hb] at e
      exact s.rh a o e
theorem Stp.fresh {K : PySem.W.Frag} {G G1 : GH} {H H1 : Hp} (s : Stp K G H G1 H1) {p : Addr} (h : H1 p = none) : ∀ o, H p = some o → G p ≠ none := fun o e g => by
  have := (s.hid p o e g).1
  rw [h] at this; cases this
end PV
/-! PVC: operations -/
namespace PV
open PySem PySem.Spec L2
open PyProof.Rows hiding St
section
variable {K : PySem.W.Frag} {G : GH} {H : Hp} {Qw : QW} {Q : VK}
/-! ways to go on -/
theorem Kt.int (k : Kt K G H Qw Q) (rh : RH K G H) {i : Int} (q : Qw (.int i) G) : Q (.int i) H := k _ _ _ _ q (.refl rh) (.int i)
theorem Kt.str (k : Kt K G H Qw Q) (rh : RH K G H) {i : Str} (q : Qw (.str i) G) : Q (.str i) H := k _ _ _ _ q (.refl rh) (.str i)
theorem Kt.bl (k : Kt K G H Qw Q) (rh : RH K G H) {i : Bool} (q : Qw (.bl i) G) : Q (.bl i) H := k _ _ _ _ q (.refl rh) (.bl i)
theorem Kt.non (k : Kt K G H Qw Q) (rh : RH K G H) (q : Qw .non G) : Q .non H := k _ _ _ _ q (.refl rh) .non
theorem Kt.rep (k : Kt K G H Qw Q) (rh : RH K G H) {w : W} {v : V} (q : Qw w G) (r : Rep K H w v) : Q v H := k _ _ _ _ q (.refl rh) r
theorem Kt.newL (k : Kt K G H Qw Q) (rh : RH K G H) {ws : List W} {vs : List V} {p : Addr} (q : newo G (.lst ws) Qw) (hp : H p = none) (r : Reps K H ws vs) : Q (.ref p) (upd H p (.lst vs)) :=
  k _ _ _ _ (q p (rh.free hp)) (Stp.newL rh hp r) (.ref p)
theorem Kt.newT (k : Kt K G H Qw Q) (rh : RH K G H) {ws : List W} {vs : List V} {p : Addr} (q : Qw (.tup ws) G) (hp : H p = none) (r : Reps K H ws vs) : Q (.ref p) (upd H p (.tup vs)) :=
  k _ _ _ _ q (Stp.newH rh hp) (.tup (.inl (.inl upd_same)) (r.kept (Kept.new hp)))
theorem onS_of {α : Type} {o : Option α} {P : α → Prop} (h : onS o P) : ∃ x, o = some x ∧ P x := by
  cases o with
  | none => exact h.elim
  | some x => exact ⟨x, rfl, h⟩
def ixCps (cs : List Nat) (i : Int) : Option Nat := match i with
  | .ofNat n => cs[n]?
  | .negSucc n => if n < cs.length then cs[cs.length - (n + 1)]? else none
theorem onG_lst {a : Addr} {P : WO → Prop} (h : onG G a P) (rh : RH K G H) : (∃ ws vs, G a = some (.lst ws) ∧ H a = some (.lst vs) ∧ Reps K H ws vs ∧ P (.lst ws)) ∨ ∃ o u, (∀ ws, o ≠ .lst ws) ∧ G a = some o ∧ H a = some u ∧ OR K H o u ∧ P o := by
  obtain ⟨o, e, p⟩ := h
  obtain ⟨u, h1, q⟩ := rh a o e
  cases q with
  | lst r => exact .inl ⟨_, _, e, h1, r, p⟩
  | dct r => exact .inr ⟨_, _, (fun _ z => by cases z), e, h1, .dct r, p⟩
  | fdct r => exact .inr ⟨_, _, (fun _ z => by cases z), e, h1, .fdct r, p⟩
  | ins x r => exact .inr ⟨_, _, (fun _ z => by cases z), e, h1, .ins x r, p⟩
theorem noL {o : WO} {u : HO} {P : Prop} (nl : ∀ ws, o ≠ .lst ws) (h : OR K H o u) (hd : ∀ kvs us, o = .dct kvs → u = .dK us → RepKV K H kvs us → P) (hf : ∀ kvs us od, o = .fdct kvs → u = .frz od (.dK us) → RepKV K H kvs us → P) (hi : ∀ c fs, o = .ins c fs → P) : P := by
  cases h with
  | lst r => exact (nl _ rfl).elim
  | dct r => exact hd _ _ rfl rfl r
  | fdct r => exact hf _ _ _ rfl rfl r
  | ins x r => exact hi _ _ rfl
end
def OkR (K : PySem.W.Frag) (opw : W → W → GH → QW → Prop) (r : R2) : Prop := ∀ x y G Qw vx vy H Q, opw x y G Qw → RH K G H → Rep K H x vx → Rep K H y vy → Kt K G H Qw Q → r vx vy H Q
theorem se_op {X : Cx} {ea eb : Expr} {op : Operator} {r : R2} {opw : W → W → GH → QW → Prop} {ta tb : Sw → GH → QW → Prop} {pos : Pos} (ho : OpR X (binaryOp op) r) (ok : OkR X.K opw r)
    (ha : PE X ea (LE X.K ta)) (hb : PE X eb (LE X.K tb)) : PE X (.BinOp ea op eb pos) (LE X.K fun σ G Q => ta σ G fun x G1 => tb σ G1 fun y G2 => opw x y G2 Q) :=
  peMono (pe_op ho ha hb) fun σ H Q ⟨σw, G, Qw, sl, rh, h, k⟩ => ⟨σw, G, _, sl, rh, h, fun x G1 vx H1 h1 st1 rx => ⟨σw, G1, _, sl.stp rh st1, st1.rh, h1, fun y G2 vy H2 h2 st2 ry =>
    ok x y G2 Qw vx vy H2 Q h2 st2.rh (rx.stp st1.rh st2) ry (k.stp (st1.trans st2))⟩⟩
section
variable {X : Cx}
def rAdd (K : PySem.W.Frag) : R2 := fun x y H Q => ((rI0 fun i j => .int (i + j)) x y H Q ∨ (∃ i j, x = .str i ∧ y = .str j ∧ i.length + j.length ≤ sizeLine ∧ Q (.str (i ++ j)) H)) ∨ (rCatA K x y H Q ∨ rCat x y H Q)
theorem ok_add : OpR X (binaryOp .Add) (rAdd X.K) := (op_add.or op_add_str).or (op_catA.or op_cat)
theorem okr_add {K : PySem.W.Frag} : OkR K opAdd (rAdd K) := by
  intro x y G Qw vx vy H Q h rh rx ry k
  unfold opAdd at h
  split at h
  · cases rx; cases ry
    exact .inl (.inl ⟨_, _, rfl, rfl, k.int rh h⟩)
  · cases rx; cases ry
    exact .inl (.inr ⟨_, _, rfl, rfl, h.1, k.str rh h.2⟩)
  · rename_i xs ys
    cases rx with | tup h1 r1 => cases ry with | tup h2 r2 =>
    refine .inr (.inl ⟨_, _, _, _, rfl, rfl, h1, h2, by rw [← r1.length, ← r2.length]; exact h.1, fun e => ?_, fun _ e => ?_, fun _ _ p hp => ?_⟩)
    · subst e; cases r1
      exact k.rep rh h.2 (.tup h2 r2)
    · subst e; cases r2
      have q := h.2
      rw [List.append_nil] at q
      exact k.rep rh q (.tup h1 r1)
    · exact k.newT rh h.2 hp (r1.append r2)
  · cases rx; cases ry
    rcases onG_lst h rh with ⟨ws, vs, g1, h1, r1, q⟩ | ⟨o, u, nl, g1, h1, x, q⟩
    · rcases onG_lst q rh with ⟨us, xs, g2, h2, r2, q⟩ | ⟨o, u, nl, g2, h2, x, q⟩
      · exact .inr (.inr ⟨_, _, _, _, rfl, rfl, h1, h2, by rw [← r1.length, ← r2.length]; exact q.1, fun p hp => k.newL rh q.2 hp (r1.append r2)⟩)
      · exact noL nl x (fun _ _ e _ _ => by subst e; exact q.elim) (fun _ _ _ e _ _ => by subst e; exact q.elim) (fun _ _ e => by subst e; exact q.elim)
    · obtain ⟨_, _, q⟩ := q
      exact noL nl x (fun _ _ e _ _ => by subst e; exact q.elim) (fun _ _ _ e _ _ => by subst e; exact q.elim) (fun _ _ e => by subst e; exact q.elim)
  · exact h.elim
theorem okr_sub {K : PySem.W.Frag} : OkR K opSub (rI0 fun i j => .int (i - j)) := by
  intro x y G Qw vx vy H Q h rh rx ry k
  unfold opSub at h
  split at h
  · cases rx; cases ry
    exact ⟨_, _, rfl, rfl, k.int rh h⟩
  · exact h.elim
theorem okr_mul {K : PySem.W.Frag} : OkR K opMul (rI CMul fun i j => .int (i * j)) := by
  intro x y G Qw vx vy H Q h rh rx ry k
  unfold opMul at h
  split at h
  · cases rx; cases ry
    exact ⟨_, _, rfl, rfl, h.1, k.int rh h.2⟩
  · exact h.elim
theorem okr_fdiv {K : PySem.W.Frag} : OkR K opFdiv (rI CDiv fun i j => .int (i / j)) := by
  intro x y G Qw vx vy H Q h rh rx ry k
  unfold opFdiv at h
  split at h
  · cases rx; cases ry
    exact ⟨_, _, rfl, rfl, h.1, k.int rh h.2⟩
  · exact h.elim
theorem okr_mod {K : PySem.W.Frag} : OkR K opMod (rI (fun _ j => 0 < j) fun i j => .int (i % j)) := by
  intro x y G Qw vx vy H Q h rh rx ry k
  unfold opMod at h
  split at h
  · cases rx; cases ry
    exact ⟨_, _, rfl, rfl, h.1, k.int rh h.2⟩
  · exact h.elim
theorem okr_pow {K : PySem.W.Frag} : OkR K opPow (rI CPow fun i j => .int (i ^ j.toNat)) := by
  intro x y G Qw vx vy H Q h rh rx ry k
  unfold opPow at h
  split at h
  · cases rx; cases ry
    exact ⟨_, _, rfl, rfl, h.1, k.int rh h.2⟩
  · exact h.elim
def boOp : BO → Operator
  | .add => .Add | .sub => .Sub | .mul => .Mult | .fdiv => .FloorDiv | .mod => .Mod | .pow => .Pow
theorem okB (o : BO) : ∃ r, OpR X (binaryOp (boOp o)) r ∧ OkR X.K (opB o) r := by
  cases o with
  | add => exact ⟨_, ok_add, okr_add⟩
  | sub => exact ⟨_, op_sub, okr_sub⟩
  | mul => exact ⟨_, op_mul, okr_mul⟩
  | fdiv => exact ⟨_, op_fdiv, okr_fdiv⟩
  | mod => exact ⟨_, op_mod, okr_mod⟩
  | pow => exact ⟨_, op_pow, okr_pow⟩
end

/-! ### truth -/
section
variable {K : PySem.W.Frag} {G : GH} {H : Hp}
theorem tru_of {x : W} {v : V} {P : Bool → Prop} (h : tru x G P) (rh : RH K G H) (r : Rep K H x v) : ∃ k, TruV K v H k ∧ P k := by
  unfold tru at h
  split at h
  · cases r; exact ⟨_, rfl, h⟩
  · cases r; exact ⟨_, rfl, h⟩
  · cases r; exact ⟨_, rfl, h⟩
  · cases r
    rename_i x
    refine ⟨_, ⟨h.1, rfl⟩, ?_⟩
    have e : ((x.length : Int) != 0) = (x.length != 0) := by
      cases x.length with
      | zero => rfl
      | succ n => rfl
    rw [e]; exact h.2
  · cases r with | tup h1 r1 =>
    refine ⟨_, .inr (.inl ⟨_, h1, rfl⟩), ?_⟩
    cases r1 <;> exact h
  · cases r with | clst h1 r1 =>
    refine ⟨_, .inl ⟨_, h1.seq, rfl⟩, ?_⟩
    cases r1 <;> exact h
  · cases r
    rcases onG_lst h rh with ⟨ws, vs, g1, h1, r1, q⟩ | ⟨o, u, nl, g1, h1, x, q⟩
    · refine ⟨_, .inl ⟨_, .inl (.inl h1), rfl⟩, ?_⟩
      cases r1 <;> exact q
    · exact noL nl x (fun kvs us e e2 r => by subst e e2; refine ⟨_, .inr (.inr ⟨_, h1, rfl⟩), ?_⟩; cases r <;> exact q) (fun _ _ _ e _ _ => by subst e; exact q.elim) (fun _ _ e => by subst e; exact q.elim)
end
/-- an expression of a plain form, as a test -/
theorem st_plain {X : Cx} {e : Expr} {t : Sw → GH → QW → Prop} (h : PE X e (LE X.K t)) (he : ∀ whole, isTrue e X.env whole = (do let v ← whole; standAt e.pos; holding [v] (truthy v))) :
    PT X e (LT X.K fun σ G R => t σ G fun x G1 => tru x G1 fun k => R k G1) :=
  ptMono (pt_truth h he) fun σ H Q ⟨σw, G, Qw, sl, rh, q, k⟩ => ⟨σw, G, _, sl, rh, q, fun w G' v H' q' st r =>
    let ⟨c, t1, p⟩ := tru_of q' st.rh r
    ⟨c, t1, k c G' H' p st⟩⟩
theorem se_not {X : Cx} {e : Expr} {t : Sw → GH → QW → Prop} {pos : Pos} (h : PE X e (LE X.K t)) : PE X (.UnaryOp .Not e pos) (LE X.K fun σ G Q => t σ G fun x G1 => tru x G1 fun c => Q (.bl (!c)) G1) :=
  peMono (pe_notT h) fun σ H Q ⟨σw, G, Qw, sl, rh, q, k⟩ => ⟨σw, G, _, sl, rh, q, fun w G' v H' q' st r =>
    let ⟨c, t1, p⟩ := tru_of q' st.rh r
    ⟨c, t1, (k.stp st).bl st.rh p⟩⟩
theorem st_not {X : Cx} {e : Expr} {t : Sw → GH → (Bool → GH → Prop) → Prop} {pos : Pos} (h : PT X e (LT X.K t)) : PT X (.UnaryOp .Not e pos) (LT X.K fun σ G R => t σ G fun c G1 => R (!c) G1) :=
  ptMono (pt_not h) fun σ H Q ⟨σw, G, Qw, sl, rh, q, k⟩ => ⟨σw, G, _, sl, rh, q, fun c G' H' q' st => k _ G' H' q' st⟩

/-! ### comparisons -/
/-- a value, or a fresh list that stands at v -/
def RepT (K : PySem.W.Frag) (H : Hp) (w : W) (v : V) : Prop := Rep K H w v ∨ ∃ ws a vs, w = .clst ws ∧ v = .ref a ∧ SqL K H a vs ∧ Reps K H ws vs
section
variable {K : PySem.W.Frag} {G : GH} {H : Hp}
mutual
theorem isD_dp (rh : RH K G H) : ∀ {w : W} {v : V} {d : PyData}, IsD G w d → Rep K H w v → Dp K H v d
  | _, _, _, .non, r => by cases r; exact .non
  | _, _, _, .bl b, r => by cases r; exact .bl b
  | _, _, _, .int b, r => by cases r; exact .int b
  | _, _, _, .str b, r => by cases r; exact .str b
  | _, _, _, .tup hd, r => by
    cases r with | tup h1 r1 => exact .tup h1 (isDs_dp rh hd r1)
  | _, _, _, .clst hd, r => by
    cases r with | clst h1 r1 => exact .lst h1.seq (isDs_dp rh hd r1)
  | _, _, _, .lst g hd, r => by
    cases r
    obtain ⟨vs, h1, r1⟩ := (rh _ _ g).lst_
    exact .lst (.inl (.inl h1)) (isDs_dp rh hd r1)
theorem isDs_dp (rh : RH K G H) : ∀ {w : List W} {v : List V} {d : List PyData}, IsDs G w d → Reps K H w v → DpAll K H v d
  | _, _, _, .nil, r => by cases r; exact .nil
  | _, _, _, .cons h hs, r => by
    cases r with | cons r1 r2 => exact .cons (isD_dp rh h r1) (isDs_dp rh hs r2)
end
theorem isD_dpT (rh : RH K G H) {w : W} {v : V} {d : PyData} (h : IsD G w d) (r : RepT K H w v) : Dp K H v d := by
  rcases r with r | ⟨ws, a, vs, rfl, rfl, s, r⟩
  · exact isD_dp rh h r
  · cases h with | clst hd => exact .lst s (isDs_dp rh hd r)
end
def OkC (K : PySem.W.Frag) (opw : W → W → GH → (Bool → Prop) → Prop) (r : R2) : Prop := ∀ x y G (P : Bool → Prop) vx vy H Q, opw x y G P → RH K G H → RepT K H x vx → RepT K H y vy → (∀ c, P c → Q (.bl c) H) → r vx vy H Q
theorem RepT.int {K : PySem.W.Frag} {H : Hp} {i : Int} {v : V} (r : RepT K H (.int i) v) : v = .int i := by
  rcases r with r | ⟨_, _, _, e, _⟩
  · cases r; rfl
  · cases e
theorem RepT.str {K : PySem.W.Frag} {H : Hp} {i : Str} {v : V} (r : RepT K H (.str i) v) : v = .str i := by
  rcases r with r | ⟨_, _, _, e, _⟩
  · cases r; rfl
  · cases e
theorem RepT.bl {K : PySem.W.Frag} {H : Hp} {i : Bool} {v : V} (r : RepT K H (.bl i) v) : v = .bl i := by
  rcases r with r | ⟨_, _, _, e, _⟩
  · cases r; rfl
  · cases e
theorem RepT.non {K : PySem.W.Frag} {H : Hp} {v : V} (r : RepT K H .non v) : v = .non := by
  rcases r with r | ⟨_, _, _, e, _⟩
  · cases r; rfl
  · cases e
theorem isNon_iff {K : PySem.W.Frag} {H : Hp} {w : W} {v : V} (r : RepT K H w v) : decide (v = .non) = isNon w := by
  rcases r with r | ⟨_, _, _, e, e2, _⟩
  · cases r <;> rfl
  · subst e e2; rfl
theorem flat_of {K : PySem.W.Frag} {H : Hp} {w : W} {v : V} (f : flatW w = true) (r : Rep K H w v) : v = toV w ∧ flatV v = true := by
  cases r <;> first | exact ⟨rfl, rfl⟩ | (simp [flatW] at f)
theorem flats_of {K : PySem.W.Frag} {H : Hp} : ∀ {ws : List W} {vs : List V}, ws.all flatW = true → Reps K H ws vs → vs = ws.map toV ∧ vs.all flatV = true
  | _, _, _, .nil => ⟨rfl, rfl⟩
  | _, _, f, .cons r rs => by
    rw [List.all_cons, Bool.and_eq_true] at f
    obtain ⟨e1, f1⟩ := flat_of f.1 r
    obtain ⟨e2, f2⟩ := flats_of f.2 rs
    subst e1 e2
    exact ⟨rfl, by rw [List.all_cons, f1, f2]; rfl⟩
section
variable {X : Cx}
def rEqA (K : PySem.W.Frag) : R2 := fun x y H Q => (rEq x y H Q ∨ rEqD K x y H Q) ∨ rEqDA x y H Q
def rNeA (K : PySem.W.Frag) : R2 := fun x y H Q => (rNe x y H Q ∨ rNeD K x y H Q) ∨ rNeDA x y H Q
theorem dec_int {i j : Int} : decide (V.int i = V.int j) = decide (i = j) := by
  by_cases h : i = j
  · subst h; simp
  · rw [decide_eq_false h, decide_eq_false (fun e => h (V.int.inj e))]
theorem dec_str {i j : Str} : decide (V.str i = V.str j) = decide (i = j) := by
  by_cases h : i = j
  · subst h; simp
  · rw [decide_eq_false h, decide_eq_false (fun e => h (V.str.inj e))]
theorem dec_bl {i j : Bool} : decide (V.bl i = V.bl j) = decide (i = j) := by
  by_cases h : i = j
  · subst h; simp
  · rw [decide_eq_false h, decide_eq_false (fun e => h (V.bl.inj e))]
theorem RepT.ref {K : PySem.W.Frag} {H : Hp} {a : Addr} {v : V} (r : RepT K H (.ref a) v) : v = .ref a := by
  rcases r with r | ⟨_, _, _, e, _⟩
  · cases r; rfl
  · cases e
theorem val_rep {K : PySem.W.Frag} {H : Hp} {κ : Type} [DecidableEq κ] {kvs : List (κ × W)} {us : List (κ × V)} (r : RepKV K H kvs us) (k : κ) : (valW kvs k = none ∧ valV us k = none) ∨ ∃ w v, valW kvs k = some w ∧ valV us k = some v ∧ Rep K H w v := by
  unfold valW valV
  induction r with
  | nil => exact .inl ⟨rfl, rfl⟩
  | @cons p q ps qs h t ih =>
    rw [List.find?_cons, List.find?_cons, ← h.1]
    by_cases e : p.1 = k
    · rw [decide_eq_true e]; exact .inr ⟨_, _, rfl, rfl, h.2⟩
    · rw [decide_eq_false e]; exact ih
theorem flatB_of {K : PySem.W.Frag} {H : Hp} {w : W} {v : V} (f : flatW w = true) (r : Rep K H w v) : flatB v = true := by
  cases r <;> first | rfl | cases f
theorem eqDct_vals {K : PySem.W.Frag} {H : Hp} {ks ls : List (Key × W)} {us vs : List (Key × V)} (r1 : RepKV K H ks us) (r2 : RepKV K H ls vs) (hp : ∀ p ∈ ks, valW ls p.1 = some p.2 ∧ flatW p.2 = true) : ∀ p ∈ us, valV vs p.1 = some p.2 ∧ flatB p.2 = true := by
  induction r1 with
  | nil => intro p h; cases h
  | @cons p q ps qs h t ih =>
    intro z hz
    rcases List.mem_cons.mp hz with rfl | hz
    · obtain ⟨h1, h2⟩ := hp p List.mem_cons_self
      refine ⟨?_, flatB_of h2 h.2⟩
      rcases val_rep r2 p.1 with ⟨e, _⟩ | ⟨w, v, e1, e2, rw_⟩
      · rw [h1] at e; cases e
      · rw [h1] at e1; cases e1
        rw [← h.1, e2, (flat_of h2 rw_).1, (flat_of h2 h.2).1]
    · exact ih (fun y hy => hp y (List.mem_cons_of_mem _ hy)) z hz
theorem okc_eq {K : PySem.W.Frag} : OkC K opEq (rEqA K) := by
  intro x y G P vx vy H Q h rh rx ry k
  unfold opEq at h
  split at h
  · rw [rx.int, ry.int]
    exact .inl (.inl ⟨rfl, by rw [dec_int]; exact k _ h⟩)
  · rw [rx.str, ry.str]
    exact .inl (.inl ⟨rfl, by rw [dec_str]; exact k _ h⟩)
  · rw [rx.bl, ry.bl]
    exact .inl (.inl ⟨rfl, by rw [dec_bl]; exact k _ h⟩)
  · rcases h with ⟨d, e, h1, h2, s1, s2, p⟩ | ⟨ks, ls, g1, g2, hl, hp, p⟩
    · exact .inl (.inr ⟨d, e, isD_dpT rh h1 rx, isD_dpT rh h2 ry, s1, s2, k _ p⟩)
    · rw [rx.ref, ry.ref]
      obtain ⟨us, h1, r1⟩ := (rh _ _ g1).dct_
      obtain ⟨vs, h2, r2⟩ := (rh _ _ g2).dct_
      exact .inr ⟨_, _, us, vs, rfl, rfl, h1, h2, by rw [← r1.len, ← r2.len]; exact hl, eqDct_vals r1 r2 hp, k _ p⟩
  · obtain ⟨d, e, h1, h2, s1, s2, p⟩ := h
    exact .inl (.inr ⟨d, e, isD_dpT rh h1 rx, isD_dpT rh h2 ry, s1, s2, k _ p⟩)
theorem okc_ne {K : PySem.W.Frag} : OkC K (fun x y G P => opEq x y G fun b => P (!b)) (rNeA K) := by
  intro x y G P vx vy H Q h rh rx ry k
  unfold opEq at h
  split at h
  · rw [rx.int, ry.int]
    exact .inl (.inl ⟨rfl, by rw [dec_int]; exact k _ h⟩)
  · rw [rx.str, ry.str]
    exact .inl (.inl ⟨rfl, by rw [dec_str]; exact k _ h⟩)
  · rw [rx.bl, ry.bl]
    exact .inl (.inl ⟨rfl, by rw [dec_bl]; exact k _ h⟩)
  · rcases h with ⟨d, e, h1, h2, s1, s2, p⟩ | ⟨ks, ls, g1, g2, hl, hp, p⟩
    · exact .inl (.inr ⟨d, e, isD_dpT rh h1 rx, isD_dpT rh h2 ry, s1, s2, k _ p⟩)
    · rw [rx.ref, ry.ref]
      obtain ⟨us, h1, r1⟩ := (rh _ _ g1).dct_
      obtain ⟨vs, h2, r2⟩ := (rh _ _ g2).dct_
      exact .inr ⟨_, _, us, vs, rfl, rfl, h1, h2, by rw [← r1.len, ← r2.len]; exact hl, eqDct_vals r1 r2 hp, k _ p⟩
  · obtain ⟨d, e, h1, h2, s1, s2, p⟩ := h
    exact .inl (.inr ⟨d, e, isD_dpT rh h1 rx, isD_dpT rh h2 ry, s1, s2, k _ p⟩)
def rLtA : R2 := fun x y H Q => (rI0 fun i j => .bl (decide (i < j))) x y H Q ∨ (∃ i j, x = .str i ∧ y = .str j ∧ Q (.bl (decide (i.cps.toList < j.cps.toList))) H)
theorem okc_lt {K : PySem.W.Frag} : OkC K opLt rLtA := by
  intro x y G P vx vy H Q h rh rx ry k
  unfold opLt at h
  split at h
  · rw [rx.int, ry.int]
    exact .inl ⟨_, _, rfl, rfl, k _ h⟩
  · rw [rx.str, ry.str]
    exact .inr ⟨_, _, rfl, rfl, k _ h⟩
  · exact h.elim
end
end PV
/-! PVD: expressions -/
namespace PV
open PySem PySem.Spec L2
open PyProof.Rows hiding St
section
variable {X : Cx}
theorem okc_flip {K : PySem.W.Frag} {opw : W → W → GH → (Bool → Prop) → Prop} {r : R2} (h : OkC K opw r) : OkC K (fun x y G P => opw y x G P) (fun x y H Q => r y x H Q) :=
  fun x y G P vx vy H Q q rh rx ry k => h y x G P vy vx H Q q rh ry rx k
def rLeA : R2 := fun x y H Q => (rI0 fun i j => .bl (decide (i ≤ j))) x y H Q ∨ (∃ i j, x = .str i ∧ y = .str j ∧ Q (.bl (!decide (j.cps.toList < i.cps.toList))) H)
theorem okc_le {K : PySem.W.Frag} : OkC K opLe rLeA := by
  intro x y G P vx vy H Q h rh rx ry k
  unfold opLe at h
  split at h
  · rw [rx.int, ry.int]
    exact .inl ⟨_, _, rfl, rfl, k _ h⟩
  · rw [rx.str, ry.str]
    exact .inr ⟨_, _, rfl, rfl, k _ h⟩
  · exact h.elim
theorem op_gtA : OpR X (compareOp .Gt) (fun x y H Q => rLtA y x H Q) := by
  intro pins s σ H x y v u Q I rx ry h
  refine (op_gt.or op_gt_str) pins s σ H x y v u Q I rx ry ?_
  rcases h with ⟨i, j, e1, e2, q⟩ | ⟨i, j, e1, e2, q⟩
  · exact .inl ⟨j, i, e2, e1, q⟩
  · exact .inr ⟨j, i, e2, e1, q⟩
theorem op_geA : OpR X (compareOp .GtE) (fun x y H Q => rLeA y x H Q) := by
  intro pins s σ H x y v u Q I rx ry h
  refine (op_ge.or op_ge_str) pins s σ H x y v u Q I rx ry ?_
  rcases h with ⟨i, j, e1, e2, q⟩ | ⟨i, j, e1, e2, q⟩
  · exact .inl ⟨j, i, e2, e1, q⟩
  · exact .inr ⟨j, i, e2, e1, q⟩
theorem in_core {K : PySem.W.Frag} {neg : Bool} {xs : List W} {x : W} {vx : V} {p : Addr} {vs : List V} {H : Hp} {Q : VK} (rx : Rep K H x vx) (hs : SqL K H p vs ∨ SqT K H p vs) (rs : Reps K H xs vs) (f : flatW x = true) (fs : xs.all flatW = true)
    (q : Q (.bl (if neg then !inW x xs else inW x xs)) H) : rIn K neg vx (.ref p) H Q := by
  obtain ⟨e1, f1⟩ := flat_of f rx
  obtain ⟨e2, f2⟩ := flats_of fs rs
  subst e1 e2
  exact ⟨p, _, rfl, hs, f1, f2, q⟩
theorem RepT.flat {K : PySem.W.Frag} {H : Hp} {w : W} {v : V} (r : RepT K H w v) (f : flatW w = true) : Rep K H w v := by
  rcases r with r | ⟨_, _, _, e, _⟩
  · exact r
  · subst e; cases f
def rInD (neg : Bool) : R2 := fun x y H Q => ∃ a o, y = .ref a ∧ DGet H a x o ∧ Q (.bl (if neg then !o.isSome else o.isSome)) H
def rInA (K : PySem.W.Frag) (neg : Bool) : R2 := fun x y H Q => rIn K neg x y H Q ∨ rInD neg x y H Q
theorem op_in_dct (hu : X.A.units + 1 < cLine) : OpR X (compareOp .In) (rInD false) := by
  intro pins s σ H x y v u Q I rx ry h
  obtain ⟨a, o, rfl, g, q⟩ := h
  obtain rfl : u = Value.ref a := ry
  exact d_in hu I g rx fun s3 I3 => ⟨.bl o.isSome, H, I3, rfl, q⟩
theorem op_notIn_dct (hu : X.A.units + 1 < cLine) : OpR X (compareOp .NotIn) (rInD true) := by
  intro pins s σ H x y v u Q I rx ry h
  obtain ⟨a, o, rfl, g, q⟩ := h
  obtain rfl : u = Value.ref a := ry
  exact d_notIn hu I g rx fun s3 I3 => ⟨.bl (!o.isSome), H, I3, rfl, q⟩
theorem keyOf_rep {K : PySem.W.Frag} {H : Hp} {x : W} {v : V} {k : Key} (e : keyOf x = some k) (r : RepT K H x v) : v = kV k := by
  cases x <;> simp only [keyOf] at e <;> cases e
  · exact r.int
  · exact r.str
theorem val_some {K : PySem.W.Frag} {H : Hp} {κ : Type} [DecidableEq κ] {kvs : List (κ × W)} {us : List (κ × V)} (r : RepKV K H kvs us) {k : κ} : (valV us k).isSome = (valW kvs k).isSome := by
  rcases val_rep r k with ⟨e1, e2⟩ | ⟨w, v, e1, e2, _⟩ <;> rw [e1, e2] <;> rfl
theorem okc_in {K : PySem.W.Frag} (neg : Bool) : OkC K (fun x y G P => opIn x y G fun b => P (if neg then !b else b)) (rInA K neg) := by
  intro x y G P vx vy H Q h rh rx ry k
  unfold opIn at h
  split at h
  · obtain ⟨f, fs, p⟩ := h
    rcases ry with r | ⟨_, _, _, e, _⟩
    · cases r with | tup h1 r1 => exact .inl (in_core (rx.flat f) (.inr h1) r1 f fs (k _ p))
    · cases e
  · obtain ⟨f, fs, p⟩ := h
    rcases ry with r | ⟨ws, a, vs, e, e2, h1, r1⟩
    · cases r with | clst h1 r1 => exact .inl (in_core (rx.flat f) (.inl h1.seq) r1 f fs (k _ p))
    · cases e; subst e2
      exact .inl (in_core (rx.flat f) (.inl h1) r1 f fs (k _ p))
  · rcases ry with r | ⟨_, _, _, e, _⟩
    · cases r
      rcases onG_lst h rh with ⟨ws, vs, g1, h1, r1, f, fs, p⟩ | ⟨o, u, nl, g1, h1, x, q⟩
      · exact .inl (in_core (rx.flat f) (.inl (.inl (.inl h1))) r1 f fs (k _ p))
      · refine noL nl x (fun kvs us e e2 r => ?_) (fun kvs us od e e2 r => ?_) (fun _ _ e => by subst e; exact q.elim)
        · subst e e2
          obtain ⟨ky, ek, q⟩ := onS_of q
          exact .inr ⟨_, _, rfl, .inl ⟨us, ky, .inl h1, keyOf_rep ek rx, rfl⟩, by rw [val_some r]; exact k _ q⟩
        · subst e e2
          obtain ⟨ky, ek, q⟩ := onS_of q
          exact .inr ⟨_, _, rfl, .inl ⟨us, ky, .inr ⟨_, h1⟩, keyOf_rep ek rx, rfl⟩, by rw [val_some r]; exact k _ q⟩
    · cases e
  · exact h.elim
theorem okc_is {K : PySem.W.Frag} : OkC K (opC .is) (fun x y H Q => y = .non ∧ Q (.bl (decide (x = .non))) H) := by
  intro x y G P vx vy H Q h rh rx ry k
  simp only [opC] at h
  split at h
  · exact ⟨ry.non, by rw [isNon_iff rx]; exact k _ h⟩
  · exact h.elim
theorem okc_isnt {K : PySem.W.Frag} : OkC K (opC .isnt) (fun x y H Q => y = .non ∧ Q (.bl (!decide (x = .non))) H) := by
  intro x y G P vx vy H Q h rh rx ry k
  simp only [opC] at h
  split at h
  · exact ⟨ry.non, by rw [isNon_iff rx]; exact k _ h⟩
  · exact h.elim
def coOp : CO → CmpOp
  | .eq => .Eq | .ne => .NotEq | .lt => .Lt | .le => .LtE | .gt => .Gt | .ge => .GtE | .isin => .In | .notin => .NotIn | .is => .Is | .isnt => .IsNot
theorem dLine1 (ho : Room 0 X.A) : X.A.units + 1 < cLine := by have := ho.units; omega
theorem dLine (ho : Room 0 X.A) : X.A.units < cLine := by have := ho.units; omega
theorem okC (ho : Room 0 X.A) (o : CO) : ∃ r, OpR X (compareOp (coOp o)) r ∧ OkC X.K (opC o) r := by
  cases o with
  | eq => exact ⟨_, (op_eq.or (op_eqD ho.units)).or (op_eq_dictA (dLine ho)), okc_eq⟩
  | ne => exact ⟨_, (op_ne.or (op_neD ho.units)).or (op_ne_dictA (dLine ho)), okc_ne⟩
  | lt => exact ⟨_, op_lt.or op_lt_str, okc_lt⟩
  | le => exact ⟨_, op_le.or op_le_str, okc_le⟩
  | gt => exact ⟨_, op_gtA, okc_flip okc_lt⟩
  | ge => exact ⟨_, op_geA, okc_flip okc_le⟩
  | isin => exact ⟨_, op_in_seq.or (op_in_dct (dLine1 ho)), okc_in false⟩
  | notin => exact ⟨_, op_notIn_seq.or (op_notIn_dct (dLine1 ho)), okc_in true⟩
  | is => exact ⟨_, op_isN, okc_is⟩
  | isnt => exact ⟨_, op_notN, okc_isnt⟩
def LD (K : PySem.W.Frag) (t : Sw → GH → QW → Prop) : TE := fun σ H Q => ∃ σw G Qw, Sl K H σw σ ∧ RH K G H ∧ t σw G Qw ∧ ∀ w G' v H', Qw w G' → Stp K G H G' H' → RepT K H' w v → Q v H'
theorem LD.ofE {K : PySem.W.Frag} {t : Sw → GH → QW → Prop} {σ : L2.St} {H : Hp} {Q : VK} (h : LD K t σ H Q) : LE K t σ H Q :=
  let ⟨σw, G, Qw, sl, rh, q, k⟩ := h
  ⟨σw, G, Qw, sl, rh, q, fun w G' v H' q' st r => k w G' v H' q' st (.inl r)⟩
theorem LD.ofL {K : PySem.W.Frag} {t : Sw → GH → (List W → GH → Prop) → Prop} {σ : L2.St} {H : Hp} {Q : VK} (h : LD K (fun σ G Q => t σ G fun ws G1 => Q (.clst ws) G1) σ H Q) : LL K t σ H Q :=
  let ⟨σw, G, Qw, sl, rh, q, k⟩ := h
  ⟨σw, G, _, sl, rh, q, fun ws G' vs H' D q' st hn hd gn r => k _ G' _ H' q' st (.inr ⟨ws, D, vs, rfl, rfl, .inl (.inl hd), r⟩)⟩
/-- what stays of a fresh list while more is done -/
theorem se_cmpD {ea eb : Expr} {op : CmpOp} {r : R2} {opw : W → W → GH → (Bool → Prop) → Prop} {ta tb : Sw → GH → QW → Prop} {pos : Pos} (ho : OpR X (compareOp op) r) (ok : OkC X.K opw r)
    (ha : PE X ea (LE X.K ta)) (hb : PE X eb (LD X.K tb)) (hm : behindInMarks op eb = false) : PE X (.Compare ea [op] [eb] pos) (LE X.K fun σ G Q => ta σ G fun x G1 => tb σ G1 fun y G2 => opw x y G2 fun c => Q (.bl c) G2) :=
  peMono (pe_cmpR ho ha hb hm) fun σ H Q ⟨σw, G, Qw, sl, rh, h, k⟩ => ⟨σw, G, _, sl, rh, h, fun x G1 vx H1 h1 st1 rx => ⟨σw, G1, _, sl.stp rh st1, st1.rh, h1, fun y G2 vy H2 h2 st2 ry =>
    ok x y G2 _ vx vy H2 Q h2 st2.rh (.inl (rx.stp st1.rh st2)) ry fun c q => (k.stp (st1.trans st2)).bl st2.rh q⟩⟩
theorem st_cmpD {ea eb : Expr} {op : CmpOp} {r : R2} {opw : W → W → GH → (Bool → Prop) → Prop} {ta tb : Sw → GH → QW → Prop} {pos : Pos} (ho : OpR X (compareOp op) r) (ok : OkC X.K opw r)
    (ha : PE X ea (LE X.K ta)) (hb : PE X eb (LD X.K tb)) (hm : behindInMarks op eb = false) : PT X (.Compare ea [op] [eb] pos) (LT X.K fun σ G R => ta σ G fun x G1 => tb σ G1 fun y G2 => opw x y G2 fun c => R c G2) :=
  ptMono (pt_cmpR ho ha hb hm) fun σ H Q ⟨σw, G, Qw, sl, rh, h, k⟩ => ⟨σw, G, _, sl, rh, h, fun x G1 vx H1 h1 st1 rx => ⟨σw, G1, _, sl.stp rh st1, st1.rh, h1, fun y G2 vy H2 h2 st2 ry =>
    ok x y G2 _ vx vy H2 _ h2 st2.rh (.inl (rx.stp st1.rh st2)) ry fun c q => ⟨c, rfl, k c G2 H2 q (st1.trans st2)⟩⟩⟩
/-- the left side a fresh list: it stays while the right side is made -/
theorem se_cmpLL {ea eb : Expr} {op : CmpOp} {r : R2} {opw : W → W → GH → (Bool → Prop) → Prop} {ta tb : Sw → GH → (List W → GH → Prop) → Prop} {pos : Pos} (ho : OpR X (compareOp op) r) (ok : OkC X.K opw r)
    (ha : PE X ea (LL X.K ta)) (hb : PE X eb (LL X.K tb)) (hm : behindInMarks op eb = false) : PE X (.Compare ea [op] [eb] pos) (LE X.K fun σ G Q => ta σ G fun us G1 => tb σ G1 fun ws G2 => opw (.clst us) (.clst ws) G2 fun c => Q (.bl c) G2) :=
  peMono (pe_cmpR ho ha hb hm) fun σ H Q ⟨σw, G, Qw, sl, rh, h, k⟩ => ⟨σw, G, _, sl, rh, h, fun us G1 vs H1 D h1 st1 hn hd gn rx => ⟨σw, G1, _, sl.stp rh st1, st1.rh, h1, fun ws G2 xs H2 D2 h2 st2 hn2 hd2 gn2 ry =>
    ok _ _ G2 _ _ _ H2 Q h2 st2.rh (.inr ⟨_, _, _, rfl, rfl, .inl (.inl (st2.hid _ _ hd gn).1), rx.stp st1.rh st2⟩) (.inr ⟨_, _, _, rfl, rfl, .inl (.inl hd2), ry⟩) fun c q => (k.stp (st1.trans st2)).bl st2.rh q⟩⟩
theorem st_cmpLL {ea eb : Expr} {op : CmpOp} {r : R2} {opw : W → W → GH → (Bool → Prop) → Prop} {ta tb : Sw → GH → (List W → GH → Prop) → Prop} {pos : Pos} (ho : OpR X (compareOp op) r) (ok : OkC X.K opw r)
    (ha : PE X ea (LL X.K ta)) (hb : PE X eb (LL X.K tb)) (hm : behindInMarks op eb = false) : PT X (.Compare ea [op] [eb] pos) (LT X.K fun σ G R => ta σ G fun us G1 => tb σ G1 fun ws G2 => opw (.clst us) (.clst ws) G2 fun c => R c G2) :=
  ptMono (pt_cmpR ho ha hb hm) fun σ H Q ⟨σw, G, Qw, sl, rh, h, k⟩ => ⟨σw, G, _, sl, rh, h, fun us G1 vs H1 D h1 st1 hn hd gn rx => ⟨σw, G1, _, sl.stp rh st1, st1.rh, h1, fun ws G2 xs H2 D2 h2 st2 hn2 hd2 gn2 ry =>
    ok _ _ G2 _ _ _ H2 _ h2 st2.rh (.inr ⟨_, _, _, rfl, rfl, .inl (.inl (st2.hid _ _ hd gn).1), rx.stp st1.rh st2⟩) (.inr ⟨_, _, _, rfl, rfl, .inl (.inl hd2), ry⟩) fun c q => ⟨c, rfl, k c G2 H2 q (st1.trans st2)⟩⟩⟩
/-- two comparisons in a row -/
theorem chain_red {K : PySem.W.Frag} {r r' : R2} {op1 op2 : W → W → GH → (Bool → Prop) → Prop} {ta tb tc : Sw → GH → QW → Prop} (ok : OkC K op1 r) (ok' : OkC K op2 r') {σ : L2.St} {H : Hp} {Q : VK} {σw : Sw} {G : GH} {R : Bool → GH → Prop}
    (sl : Sl K H σw σ) (rh : RH K G H) (h : ta σw G fun x G1 => tb σw G1 fun y G2 => op1 x y G2 fun k => brn k (tc σw G2 fun z G3 => op2 y z G3 fun c => R c G3) (R false G2))
    (k : ∀ c G' H', R c G' → Stp K G H G' H' → Q (.bl c) H') : tChain r r' (LE K ta) (LE K tb) (LE K tc) σ H Q :=
  ⟨σw, G, _, sl, rh, h, fun x G1 vx H1 h1 st1 rx => ⟨σw, G1, _, sl.stp rh st1, st1.rh, h1, fun y G2 vy H2 h2 st2 ry =>
    ok x y G2 _ vx vy H2 _ h2 st2.rh (.inl (rx.stp st1.rh st2)) (.inl ry) fun c q => ⟨c, rfl, by
      have s12 := st1.trans st2
      cases c with
      | true =>
        rw [if_pos rfl]
        exact ⟨σw, G2, _, sl.stp rh s12, st2.rh, q, fun z G3 vz H3 h3 st3 rz => ok' y z G3 _ vy vz H3 Q h3 st3.rh (.inl (ry.stp st2.rh st3)) (.inl rz) fun c q => k c G3 H3 q (s12.trans st3)⟩
      | false =>
        rw [if_neg Bool.false_ne_true]
        exact k false G2 H2 q s12⟩⟩⟩
theorem se_ch {ea eb ec : Expr} {op op' : CmpOp} {r r' : R2} {op1 op2 : W → W → GH → (Bool → Prop) → Prop} {ta tb tc : Sw → GH → QW → Prop} {pos : Pos} (ho : OpR X (compareOp op) r) (ok : OkC X.K op1 r) (ho' : OpR X (compareOp op') r') (ok' : OkC X.K op2 r')
    (ha : PE X ea (LE X.K ta)) (hb : PE X eb (LE X.K tb)) (hc : PE X ec (LE X.K tc)) (hm : lastMarks [op, op'] [eb, ec] = false) :
    PE X (.Compare ea [op, op'] [eb, ec] pos) (LE X.K fun σ G Q => ta σ G fun x G1 => tb σ G1 fun y G2 => op1 x y G2 fun k => brn k (tc σ G2 fun z G3 => op2 y z G3 fun c => Q (.bl c) G3) (Q (.bl false) G2)) :=
  peMono (pe_chain ho ho' ha hb hc hm) fun σ H Q ⟨σw, G, Qw, sl, rh, h, k⟩ => chain_red (R := fun c G => Qw (.bl c) G) ok ok' sl rh h fun c G' H' q st => (k.stp st).bl st.rh q
theorem st_ch {ea eb ec : Expr} {op op' : CmpOp} {r r' : R2} {op1 op2 : W → W → GH → (Bool → Prop) → Prop} {ta tb tc : Sw → GH → QW → Prop} {pos : Pos} (ho : OpR X (compareOp op) r) (ok : OkC X.K op1 r) (ho' : OpR X (compareOp op') r') (ok' : OkC X.K op2 r')
    (ha : PE X ea (LE X.K ta)) (hb : PE X eb (LE X.K tb)) (hc : PE X ec (LE X.K tc)) (hm : lastMarks [op, op'] [eb, ec] = false) :
    PT X (.Compare ea [op, op'] [eb, ec] pos) (LT X.K fun σ G R => ta σ G fun x G1 => tb σ G1 fun y G2 => op1 x y G2 fun k => brn k (tc σ G2 fun z G3 => op2 y z G3 fun c => R c G3) (R false G2)) :=
  ptMono (pt_chain ho ho' ha hb hc hm) fun σ H Q ⟨σw, G, Qw, sl, rh, h, k⟩ => chain_red (R := Qw) (Q := fun x H' => ∃ k, x = .bl k ∧ Q k H') ok ok' sl rh h fun c G' H' q st => ⟨c, rfl, k c G' H' q st⟩

/-! ### names, constants -/
theorem se_var {i : Nat} {x : Str} {pos : Pos} (hN : X.N[i]? = some x) (hv : Vis X.env.scope x) (hd : (x == ("__debug__" : Str)) = false) (hcd : (x == ("__classdict__" : Str)) = false) : PE X (.Name x pos) (LE X.K fun σ G Q => getv σ i fun w => Q w G) :=
  peMono (pe_var hN hv hd hcd) fun σ H Q ⟨σw, G, Qw, sl, rh, h, k⟩ => by
    have h : getv σw i (fun w => Qw w G) := h
    unfold getv at h
    split at h
    · rename_i w e
      obtain ⟨v, e2, r⟩ := sl.at_ i w e
      exact ⟨v, e2, k.rep rh h r⟩
    · exact h.elim
theorem se_c {e : Expr} {v : V} {w : W} (h : PE X e (tC v)) (r : ∀ H, Rep X.K H w v) : PE X e (LE X.K fun _ G Q => Q w G) :=
  peMono h fun σ H Q ⟨σw, G, Qw, sl, rh, q, k⟩ => k.rep rh q (r H)

/-! ### arguments -/
theorem sa_nil : PA X [] (LA X.K fun _ G Q => Q [] G) := paMono pa_nil fun σ H Q ⟨σw, G, Qw, sl, rh, q, k⟩ => k _ _ _ _ q (.refl rh) .nil
def notStar : Expr → Bool | .Starred _ _ => false | _ => true
theorem star_of {e : Expr} {es : List Expr} {env : Env} (h : notStar e = true) : starEach (e :: es) env = (false, eval e env) :: starEach es env := by
  cases e <;> first | rfl | (cases h)
theorem stars_of {env : Env} {pos : Pos} : ∀ {es : List Expr}, es.all notStar = true → (backTo pos (starEach es env)).any (·.1) = false
  | [], _ => rfl
  | e :: es, h => by
    rw [List.all_cons, Bool.and_eq_true] at h
    rw [star_of h.1]
    show (false || (backTo pos (starEach es env)).any (·.1)) = false
    rw [stars_of h.2]; rfl
theorem stars_len {env : Env} : ∀ {es : List Expr}, (starEach es env).length = es.length
  | [] => rfl
  | e :: es => by
    have ih := stars_len (env := env) (es := es)
    cases e <;> (show (starEach es env).length + 1 = _; rw [ih]; rfl)
theorem sa_cons {e : Expr} {es : List Expr} {ta : Sw → GH → QW → Prop} {tr : Sw → GH → (List W → GH → Prop) → Prop} (ha : PE X e (LE X.K ta)) (hr : PA X es (LA X.K tr)) (hs : notStar e = true) :
    PA X (e :: es) (LA X.K fun σ G Q => ta σ G fun x G1 => tr σ G1 fun xs G2 => Q (x :: xs) G2) :=
  paMono (pa_cons ha hr (star_of hs)) fun σ H Q ⟨σw, G, Qw, sl, rh, h, k⟩ => ⟨σw, G, _, sl, rh, h, fun x G1 vx H1 h1 st1 rx => ⟨σw, G1, _, sl.stp rh st1, st1.rh, h1, fun xs G2 vs H2 h2 st2 ry =>
    k _ _ _ _ h2 (st1.trans st2) (.cons (rx.stp st1.rh st2) ry)⟩⟩
theorem se_tup {es : List Expr} {x1 : Nat} {t : Sw → GH → (List W → GH → Prop) → Prop} {pos : Pos} (h : PA X es (LA X.K t)) : PE X (.Tuple es x1 pos) (LE X.K fun σ G Q => t σ G fun ws G1 => ws.length ≤ sizeLine ∧ Q (.tup ws) G1) :=
  peMono (pe_tup h) fun σ H Q ⟨σw, G, Qw, sl, rh, q, k⟩ => ⟨σw, G, _, sl, rh, q, fun ws G1 vs H1 h1 st1 r => ⟨by rw [← r.length]; exact h1.1, fun p hp => (k.stp st1).newT st1.rh h1.2 hp r⟩⟩
/-- a display: a fresh list -/
theorem sl_disp {es : List Expr} {t : Sw → GH → (List W → GH → Prop) → Prop} {pos : Pos} (h : PA X es (LA X.K t)) : PE X (.List es pos) (LL X.K fun σ G Q => t σ G fun ws G1 => ws.length ≤ sizeLine ∧ Q ws G1) :=
  peMono (pe_lst h) fun σ H Q ⟨σw, G, Qw, sl, rh, q, k⟩ => ⟨σw, G, _, sl, rh, q, fun ws G1 vs H1 h1 st1 r => ⟨by rw [← r.length]; exact h1.1, fun p hp =>
    k _ _ _ _ _ h1.2 (st1.trans (Stp.newH st1.rh hp)) (st1.fresh hp) upd_same (st1.rh.free hp) (r.kept (Kept.new hp))⟩⟩
end
end PV
/-! PVE: expressions, further -/
namespace PV
open PySem PySem.Spec L2
open PyProof.Rows hiding St
theorem tru_the {x : W} {G : GH} {P P2 : Bool → Prop} (h : tru x G P) (f : ∀ c, (∀ P' : Bool → Prop, tru x G P' → P' c) → P c → P2 c) : tru x G P2 := by
  unfold tru at h ⊢
  split at h
  · exact f _ (fun P' q => by simpa [tru] using q) h
  · exact f _ (fun P' q => by simpa [tru] using q) h
  · exact f _ (fun P' q => by simpa only [tru] using q) h
  · exact ⟨h.1, f _ (fun P' q => by simp only [tru] at q; exact q.2) h.2⟩
  · exact f _ (fun P' q => by simpa only [tru] using q) h
  · exact f _ (fun P' q => by simpa only [tru] using q) h
  · obtain ⟨o, e, h⟩ := h
    refine ⟨o, e, ?_⟩
    cases o with
    | lst xs => exact f _ (fun P' q => by
        simp only [tru] at q
        obtain ⟨o, e', q⟩ := q
        rw [e] at e'; cases e'; exact q) h
    | dct xs => exact f _ (fun P' q => by
        simp only [tru] at q
        obtain ⟨o, e', q⟩ := q
        rw [e] at e'; cases e'; exact q) h
    | fdct _ => exact h.elim
    | ins _ _ => exact h.elim
section
variable {X : Cx}
/-! ### and, or -/
theorem se_and1 {op : BoolOp} {e : Expr} {t : Sw → GH → QW → Prop} {pos : Pos} (h : PE X e (LE X.K t)) : PE X (.BoolOp op [e] pos) (LE X.K t) := pe_one h
theorem se_and {a b : Expr} {rest : List Expr} {ta tb : Sw → GH → QW → Prop} {pos : Pos} (ha : PE X a (LE X.K ta)) (hb : PE X (.BoolOp .And (b :: rest) pos) (LE X.K tb)) :
    PE X (.BoolOp .And (a :: b :: rest) pos) (LE X.K fun σ G Q => ta σ G fun x G1 => tru x G1 fun c => brn c (tb σ G1 Q) (Q x G1)) :=
  peMono (pe_andT ha hb) fun σ H Q ⟨σw, G, Qw, sl, rh, h, k⟩ => ⟨σw, G, _, sl, rh, h, fun x G1 v H1 q st r => by
    obtain ⟨c, t1, p⟩ := tru_of q st.rh r
    refine ⟨c, t1, ?_⟩
    cases c with
    | true => rw [if_pos rfl]; exact ⟨σw, G1, Qw, sl.stp rh st, st.rh, p, k.stp st⟩
    | false => rw [if_neg Bool.false_ne_true]; exact (k.stp st).rep st.rh p r⟩
theorem se_or {a b : Expr} {rest : List Expr} {ta tb : Sw → GH → QW → Prop} {pos : Pos} (ha : PE X a (LE X.K ta)) (hb : PE X (.BoolOp .Or (b :: rest) pos) (LE X.K tb)) :
    PE X (.BoolOp .Or (a :: b :: rest) pos) (LE X.K fun σ G Q => ta σ G fun x G1 => tru x G1 fun c => brn c (Q x G1) (tb σ G1 Q)) :=
  peMono (pe_orT ha hb) fun σ H Q ⟨σw, G, Qw, sl, rh, h, k⟩ => ⟨σw, G, _, sl, rh, h, fun x G1 v H1 q st r => by
    obtain ⟨c, t1, p⟩ := tru_of q st.rh r
    refine ⟨c, t1, ?_⟩
    cases c with
    | false => rw [if_neg Bool.false_ne_true]; exact ⟨σw, G1, Qw, sl.stp rh st, st.rh, p, k.stp st⟩
    | true => rw [if_pos rfl]; exact (k.stp st).rep st.rh p r⟩
theorem pwMono {e : Expr} {t t' : TT} (h : PW X e t) (m : ∀ σ H Q, t' σ H Q → t σ H Q) : PW X e t' := ⟨fun wh pins s σ H Q I q => h.run wh pins s σ H Q I (m σ H Q q)⟩
theorem LT_imp {K : PySem.W.Frag} {t t' : Sw → GH → (Bool → GH → Prop) → Prop} (m : ∀ σ G Q, t' σ G Q → t σ G Q) {σ : L2.St} {H : Hp} {Q : Bool → Hp → Prop} (h : LT K t' σ H Q) : LT K t σ H Q :=
  let ⟨σw, G, Qw, sl, rh, q, k⟩ := h
  ⟨σw, G, Qw, sl, rh, m _ _ _ q, k⟩
theorem LE_imp {K : PySem.W.Frag} {t t' : Sw → GH → QW → Prop} (m : ∀ σ G Q, t' σ G Q → t σ G Q) {σ : L2.St} {H : Hp} {Q : VK} (h : LE K t' σ H Q) : LE K t σ H Q :=
  let ⟨σw, G, Qw, sl, rh, q, k⟩ := h
  ⟨σw, G, Qw, sl, rh, m _ _ _ q, k⟩
theorem st_and {a b : Expr} {rest : List Expr} {ta tb : Sw → GH → (Bool → GH → Prop) → Prop} {pos : Pos} (ha : PT X a (LT X.K ta)) (hb : PW X (.BoolOp .And (b :: rest) pos) (LT X.K tb)) :
    PW X (.BoolOp .And (a :: b :: rest) pos) (LT X.K fun σ G R => ta σ G fun c G1 => brn c (tb σ G1 R) (R false G1)) :=
  pwMono (pw_and ha hb) fun σ H Q ⟨σw, G, Qw, sl, rh, h, k⟩ => ⟨σw, G, _, sl, rh, h, fun c G1 H1 q st => by
    cases c with
    | true => rw [if_pos rfl]; exact ⟨σw, G1, Qw, sl.stp rh st, st.rh, q, k.stp st⟩
    | false => rw [if_neg Bool.false_ne_true]; exact k _ _ _ q st⟩
theorem st_or {a b : Expr} {rest : List Expr} {ta tb : Sw → GH → (Bool → GH → Prop) → Prop} {pos : Pos} (ha : PT X a (LT X.K ta)) (hb : PW X (.BoolOp .Or (b :: rest) pos) (LT X.K tb)) :
    PW X (.BoolOp .Or (a :: b :: rest) pos) (LT X.K fun σ G R => ta σ G fun c G1 => brn c (R true G1) (tb σ G1 R)) :=
  pwMono (pw_or ha hb) fun σ H Q ⟨σw, G, Qw, sl, rh, h, k⟩ => ⟨σw, G, _, sl, rh, h, fun c G1 H1 q st => by
    cases c with
    | false => rw [if_neg Bool.false_ne_true]; exact ⟨σw, G1, Qw, sl.stp rh st, st.rh, q, k.stp st⟩
    | true => rw [if_pos rfl]; exact k _ _ _ q st⟩
/-- a if c else b -/
theorem se_ife {c a b : Expr} {tc : Sw → GH → (Bool → GH → Prop) → Prop} {ta tb : Sw → GH → QW → Prop} {pos : Pos} (hc : PT X c (LT X.K tc)) (ha : PE X a (LE X.K ta)) (hb : PE X b (LE X.K tb)) :
    PE X (.IfExp c a b pos) (LE X.K fun σ G Q => tc σ G fun k G1 => brn k (ta σ G1 Q) (tb σ G1 Q)) :=
  peMono (pe_ifExp hc ha hb) fun σ H Q ⟨σw, G, Qw, sl, rh, h, k⟩ => ⟨σw, G, _, sl, rh, h, fun c G1 H1 q st => by
    cases c with
    | true => rw [if_pos rfl]; exact ⟨σw, G1, Qw, sl.stp rh st, st.rh, q, k.stp st⟩
    | false => rw [if_neg Bool.false_ne_true]; exact ⟨σw, G1, Qw, sl.stp rh st, st.rh, q, k.stp st⟩⟩

/-! ### subscripts -/
theorem ixL_at {α : Type} (xs : List α) (i : Int) (f : List α → Int → Option α) (hf : ∀ n : Nat, f xs (Int.ofNat n) = xs[n]?) (hg : ∀ n : Nat, f xs (Int.negSucc n) = if n < xs.length then xs[xs.length - (n + 1)]? else none) : f xs i = atI xs i := by
  cases i with
  | ofNat n =>
    rw [hf]
    unfold atI ixN
    rw [if_pos (show (0 : Int) ≤ Int.ofNat n from Int.natCast_nonneg n)]
    by_cases h : n < xs.length
    · rw [if_pos (show Int.ofNat n < (xs.length : Int) from Int.ofNat_lt.mpr h)]
      rfl
    · rw [if_neg (fun z : Int.ofNat n < (xs.length : Int) => h (Int.ofNat_lt.mp z))]
      exact List.getElem?_eq_none (by omega)
  | negSucc n =>
    rw [hg]
    unfold atI ixN
    have e0 : ¬ (0 : Int) ≤ Int.negSucc n := by have := Int.negSucc_lt_zero n; omega
    rw [if_neg e0]
    by_cases h : n < xs.length
    · have e1 : -(xs.length : Int) ≤ Int.negSucc n := by rw [Int.negSucc_eq]; omega
      rw [if_pos h, if_pos e1]
      show _ = xs[(Int.negSucc n + (xs.length : Int)).toNat]?
      congr 1
      rw [Int.negSucc_eq]; omega
    · have e1 : ¬ -(xs.length : Int) ≤ Int.negSucc n := by rw [Int.negSucc_eq]; omega
      rw [if_neg h, if_neg e1]
      rfl
theorem ixL_eq (xs : List W) (i : Int) : ixL xs i = atI xs i := ixL_at xs i ixL (fun _ => rfl) (fun _ => rfl)
theorem Reps.atI {K : PySem.W.Frag} {H : Hp} {ws : List W} {vs : List V} {i : Int} {w : W} (r : Reps K H ws vs) (h : ixL ws i = some w) : ∃ v, L2.atI vs i = some v ∧ Rep K H w v := by
  rw [ixL_eq] at h
  unfold L2.atI at h ⊢
  rw [← r.length]
  cases e : ixN ws.length i with
  | none => rw [e] at h; cases h
  | some j =>
    rw [e] at h
    obtain ⟨v, h1, h2⟩ := r.get (show ws[j]? = some w from h)
    exact ⟨v, h1, h2⟩
theorem ixS_eq (z : Str) (i : Int) : ixS z i = (ixCps z.cps.toList i).map fun c => ⟨#[c]⟩ := rfl
def rIxDg : R2 := fun x y H Q => ∃ a v, x = .ref a ∧ DGet H a y (some v) ∧ Q v H
def rIxA (K : PySem.W.Frag) : R2 := fun x y H Q => rIx K x y H Q ∨ rIxDg x y H Q
theorem ix_dct (hu : X.A.units + 1 < cLine) : IxR X rIxDg := by
  intro value slice pins s σ H x y v u Q I rx ry h hs
  obtain ⟨a, r, rfl, g, q⟩ := h
  obtain rfl : v = Value.ref a := rx
  exact tail_any (dict_typeIs I g) PySem.F.slot_dict_getitem.lookup (d_getItem hu I g ry fun w' s3 I3 rw' => ⟨r, H, I3, rw', q⟩) hs
theorem okr_ix {K : PySem.W.Frag} : OkR K opIx (rIxA K) := by
  intro x y G Qw vx vy H Q h rh rx ry k
  unfold opIx at h
  split at h
  · cases rx with | tup h1 r1 =>
    cases ry
    obtain ⟨w, e, q⟩ := onS_of h
    obtain ⟨v, e2, r⟩ := r1.atI e
    exact .inl (.inr (.inl ⟨_, _, _, v, rfl, rfl, h1, e2, k.rep rh q r⟩))
  · cases rx with | clst h1 r1 =>
    cases ry
    obtain ⟨w, e, q⟩ := onS_of h
    obtain ⟨v, e2, r⟩ := r1.atI e
    exact .inl (.inl ⟨_, _, _, v, rfl, rfl, h1.seq, e2, k.rep rh q r⟩)
  · cases rx; cases ry
    obtain ⟨w, e, q⟩ := onS_of h.2
    rw [ixS_eq] at e
    rename_i z i
    cases e2 : ixCps z.cps.toList i with
    | none => rw [e2] at e; cases e
    | some c =>
      rw [e2] at e; cases e
      refine .inl (.inr (.inr ⟨_, _, c, rfl, rfl, h.1, ?_, k.str rh q⟩))
      rw [← e2]
      exact (ixL_at _ i ixCps (fun _ => rfl) (fun _ => rfl)).symm
  · cases rx
    rcases onG_lst h rh with ⟨ws, vs, g1, h1, r1, q⟩ | ⟨o, u, nl, g1, h1, x, q⟩
    · obtain ⟨i, rfl, q⟩ := asInt_of q
      cases ry
      obtain ⟨w, e, q⟩ := onS_of q
      obtain ⟨v, e2, r⟩ := r1.atI e
      exact .inl (.inl ⟨_, _, _, v, rfl, rfl, .inl (.inl h1), e2, k.rep rh q r⟩)
    · refine noL nl x (fun kvs us e e2 r => ?_) (fun kvs us od e e2 r => ?_) (fun _ _ e => by subst e; exact q.elim)
      · subst e e2
        obtain ⟨ky, ek, q⟩ := onS_of q
        obtain ⟨w, ew, q⟩ := onS_of q
        rcases val_rep r ky with ⟨e1, _⟩ | ⟨w2, v, e1, e2, rw_⟩
        · rw [ew] at e1; cases e1
        · rw [ew] at e1; cases e1
          exact .inr ⟨_, v, rfl, .inl ⟨us, ky, .inl h1, keyOf_rep ek (.inl ry), e2.symm⟩, k.rep rh q rw_⟩
      · subst e e2
        obtain ⟨ky, ek, q⟩ := onS_of q
        obtain ⟨w, ew, q⟩ := onS_of q
        rcases val_rep r ky with ⟨e1, _⟩ | ⟨w2, v, e1, e2, rw_⟩
        · rw [ew] at e1; cases e1
        · rw [ew] at e1; cases e1
          exact .inr ⟨_, v, rfl, .inl ⟨us, ky, .inr ⟨_, h1⟩, keyOf_rep ek (.inl ry), e2.symm⟩, k.rep rh q rw_⟩
  · exact h.elim
def notSlice : Expr → Bool | .Slice _ _ _ _ => false | _ => true
theorem plain_ix {e : Expr} (h : notSlice e = true) : PlainIx e := by
  intro o i
  cases e <;> first | rfl | (cases h)
theorem se_ix {ea eb : Expr} {ta tb : Sw → GH → QW → Prop} {pos : Pos} (ho : Room 0 X.A) (ha : PE X ea (LE X.K ta)) (hb : PE X eb (LE X.K tb)) (hs : notSlice eb = true) :
    PE X (.Subscript ea eb pos) (LE X.K fun σ G Q => ta σ G fun x G1 => tb σ G1 fun y G2 => opIx x y G2 Q) :=
  peMono (pe_ix (ix_seq.or (ix_dct (dLine1 ho))) ha hb (plain_ix hs)) fun σ H Q ⟨σw, G, Qw, sl, rh, h, k⟩ => ⟨σw, G, _, sl, rh, h, fun x G1 vx H1 h1 st1 rx => ⟨σw, G1, _, sl.stp rh st1, st1.rh, h1, fun y G2 vy H2 h2 st2 ry =>
    okr_ix x y G2 Qw vx vy H2 Q h2 st2.rh (rx.stp st1.rh st2) ry (k.stp (st1.trans st2))⟩⟩
/-- an item of a fresh list -/
theorem se_ixl {ea eb : Expr} {ta : Sw → GH → (List W → GH → Prop) → Prop} {tb : Sw → GH → QW → Prop} {pos : Pos} (ha : PE X ea (LL X.K ta)) (hb : PE X eb (LE X.K tb)) (hs : notSlice eb = true) :
    PE X (.Subscript ea eb pos) (LE X.K fun σ G Q => ta σ G fun ws G1 => tb σ G1 fun y G2 => asInt y fun i => onS (ixL ws i) fun w => Q w G2) :=
  peMono (pe_ix ix_list ha hb (plain_ix hs)) fun σ H Q ⟨σw, G, Qw, sl, rh, h, k⟩ => ⟨σw, G, _, sl, rh, h, fun ws G1 vs H1 D h1 st1 hn hd gn rx => ⟨σw, G1, _, sl.stp rh st1, st1.rh, h1, fun y G2 vy H2 h2 st2 ry => by
    obtain ⟨i, rfl, h2⟩ := asInt_of h2
    cases ry
    obtain ⟨w, e, q⟩ := onS_of h2
    obtain ⟨v, e2, r⟩ := (rx.stp st1.rh st2).atI e
    exact ⟨D, _, _, v, rfl, rfl, .inl (.inl (st2.hid _ _ hd gn).1), e2, (k.stp (st1.trans st2)).rep st2.rh q r⟩⟩⟩
/-! slices -/
def LO (K : PySem.W.Frag) (t : Sw → GH → (Option Int → GH → Prop) → Prop) : TO := fun σ H Q => ∃ σw G Qw, Sl K H σw σ ∧ RH K G H ∧ t σw G Qw ∧ ∀ o G' H', Qw o G' → Stp K G H G' H' → Q o H'
theorem so_none : PO X none (LO X.K fun _ G Q => Q none G) := ⟨fun pins s σ H Q I ⟨σw, G, Qw, sl, rh, q, k⟩ => po_none.run pins s σ H Q I (k _ _ _ q (.refl rh))⟩
theorem so_some {e : Expr} {t : Sw → GH → QW → Prop} (h : PE X e (LE X.K t)) : PO X (some e) (LO X.K fun σ G Q => t σ G fun x G1 => asInt x fun i => Q (some i) G1) :=
  ⟨fun pins s σ H Q I ⟨σw, G, Qw, sl, rh, q, k⟩ => (po_some h).run pins s σ H Q I ⟨σw, G, _, sl, rh, q, fun w G' v H' q' st r => by
    obtain ⟨i, rfl, q'⟩ := asInt_of q'
    cases r
    exact ⟨_, rfl, k _ _ _ q' st⟩⟩⟩
theorem Reps.cut {K : PySem.W.Frag} {H : Hp} {ws : List W} {vs : List V} (r : Reps K H ws vs) (lo hi : Option Int) : Reps K H (cutL ws lo hi) (cutV vs lo hi) := by
  unfold cutL cutV
  rw [← r.length]
  exact (r.drop _).take _
theorem cutL_all {α : Type} {xs : List α} {lo hi : Option Int} (h : HT.sIx xs.length 0 lo = 0 ∧ HT.sIx xs.length xs.length hi = xs.length) : cutL xs lo hi = xs := by
  unfold cutL
  rw [h.1, h.2]
  simp
def rSlAll (K : PySem.W.Frag) : V → Option Int → Option Int → Hp → VK → Prop := fun x lo hi H Q => (rSlS x lo hi H Q ∨ rSlA K x lo hi H Q) ∨ rSlL K x lo hi H Q
theorem sl_all : SlR X (rSlAll X.K) := (sl_str.or sl_tupA).or sl_list
theorem okr_sl {K : PySem.W.Frag} {x : W} {lo hi : Option Int} {G : GH} {Qw : QW} {vx : V} {H : Hp} {Q : VK} (h : opSl x lo hi G Qw) (rh : RH K G H) (rx : Rep K H x vx) (k : Kt K G H Qw Q) : rSlAll K vx lo hi H Q := by
  unfold opSl at h
  split at h
  · cases rx
    refine .inl (.inl ⟨_, rfl, h.1, ?_⟩)
    exact k.str rh h.2
  · cases rx with | tup h1 r1 =>
    refine .inl (.inr ⟨_, _, rfl, h1, fun e => ?_, fun _ p hp => k.newT rh h hp (r1.cut lo hi)⟩)
    rw [← r1.length] at e
    rw [cutL_all e] at h
    exact k.rep rh h (.tup h1 r1)
  · cases rx with | clst h1 r1 =>
    exact .inr ⟨_, _, rfl, h1.seq, fun p hp => k.newL rh h hp (r1.cut lo hi)⟩
  · cases rx
    rcases onG_lst h rh with ⟨ws, vs, g1, h1, r1, q⟩ | ⟨o, u, nl, g1, h1, x, q⟩
    · exact .inr ⟨_, _, rfl, .inl (.inl h1), fun p hp => k.newL rh q hp (r1.cut lo hi)⟩
    · exact noL nl x (fun _ _ e _ _ => by subst e; exact q.elim) (fun _ _ _ e _ _ => by subst e; exact q.elim) (fun _ _ e => by subst e; exact q.elim)
  · exact h.elim
theorem se_sl {ea : Expr} {el eh : Option Expr} {ta : Sw → GH → QW → Prop} {tl th : Sw → GH → (Option Int → GH → Prop) → Prop} {pos p2 : Pos} (ha : PE X ea (LE X.K ta)) (hl : PO X el (LO X.K tl)) (hh : PO X eh (LO X.K th)) :
    PE X (.Subscript ea (.Slice el eh none p2) pos) (LE X.K fun σ G Q => ta σ G fun x G1 => tl σ G1 fun l G2 => th σ G2 fun u G3 => opSl x l u G3 Q) :=
  peMono (pe_slice sl_all ha hl hh) fun σ H Q ⟨σw, G, Qw, sl, rh, h, k⟩ => ⟨σw, G, _, sl, rh, h, fun x G1 vx H1 h1 st1 rx => ⟨σw, G1, _, sl.stp rh st1, st1.rh, h1, fun l G2 H2 h2 st2 =>
    have s12 := st1.trans st2
    ⟨σw, G2, _, sl.stp rh s12, st2.rh, h2, fun u G3 H3 h3 st3 => okr_sl h3 st3.rh (rx.stp st1.rh (st2.trans st3)) (k.stp (s12.trans st3))⟩⟩⟩

/-! ### unary minus -/
theorem se_neg {e : Expr} {t : Sw → GH → QW → Prop} {pos : Pos} (h : PE X e (LE X.K t)) : PE X (.UnaryOp .USub e pos) (LE X.K fun σ G Q => t σ G fun x G1 => asInt x fun i => Q (.int (-i)) G1) :=
  peMono (pe_un un_neg h) fun σ H Q ⟨σw, G, Qw, sl, rh, q, k⟩ => ⟨σw, G, _, sl, rh, q, fun w G' v H' q' st r => by
    obtain ⟨i, rfl, q'⟩ := asInt_of q'
    cases r
    exact ⟨_, rfl, (k.stp st).int st.rh q'⟩⟩

/-! ### calls of defs -/
/-- what a def promises, over values -/
def spW (K : PySem.W.Frag) (n : Nat) (rf : List W → GH → QW → (Exn → GH → Prop) → Prop) : Sp := fun vs H Q _ => vs.length = n ∧ ∃ ws G Qw, Reps K H ws vs ∧ RH K G H ∧ rf ws G Qw (fun _ _ => False) ∧ Kt K G H Qw Q
theorem se_call {x : Str} {p pos : Pos} {k n : Nat} {f : Addr} {fd : FuncData} {ps : List Str} {rf : List W → GH → QW → (Exn → GH → Prop) → Prop} {e : Expr} {es : List Expr} {t : Sw → GH → (List W → GH → Prop) → Prop}
    (F : FnOk X.prog X.w X.K X.mg X.base CX0 k f fd ps (spW X.K n rf)) (hr : Room k X.A) (hg : Gl X x) (hm : X.mg x = some (.ref f)) (hk : PySem.W.keepIn X.K (.ref f) = true) (hb : Binds X.K fd ps []) (ha : PA X (e :: es) (LA X.K t))
    (hdb : (x == ("__debug__" : Str)) = false) (hs : notStar e = true) (hss : es.all notStar = true) (hn : ∀ ws G Q E, rf ws G Q E → ws.length = n) :
    PE X (.Call (.Name x p) (e :: es) [] pos) (LE X.K fun σ G Q => t σ G fun ws G1 => rf ws G1 Q fun _ _ => False) :=
  peMono (pe_call F hr hg hm hk hb .nil pass0 ha hdb (star_of hs) (stars_of hss)) fun σ H Q ⟨σw, G, Qw, sl, rh, q, k⟩ => ⟨σw, G, _, sl, rh, q, fun ws G' vs H' q' st r =>
    ⟨by rw [List.append_nil, ← r.length]; exact hn _ _ _ _ q', ws, G', Qw, by rw [List.append_nil]; exact r, st.rh, q', k.stp st⟩⟩
theorem se_call0 {x : Str} {p pos : Pos} {k n : Nat} {f : Addr} {fd : FuncData} {ps : List Str} {rf : List W → GH → QW → (Exn → GH → Prop) → Prop}
    (F : FnOk X.prog X.w X.K X.mg X.base CX0 k f fd ps (spW X.K n rf)) (hr : Room k X.A) (hg : Gl X x) (hm : X.mg x = some (.ref f)) (hk : PySem.W.keepIn X.K (.ref f) = true) (hb : Binds X.K fd ps [])
    (hdb : (x == ("__debug__" : Str)) = false) (hn : ∀ ws G Q E, rf ws G Q E → ws.length = n) :
    PE X (.Call (.Name x p) [] [] pos) (LE X.K fun σ G Q => rf [] G Q fun _ _ => False) :=
  peMono (pe_call0 F hr hg hm hk hb .nil pass0 hdb) fun σ H Q ⟨σw, G, Qw, sl, rh, q, k⟩ => ⟨hn _ _ _ _ q, [], G, Qw, .nil, rh, q, k⟩
end
end PV
/-! PVF: built-in functions, methods, isinstance -/
namespace PV
open PySem PySem.Spec L2
open PyProof.Rows hiding St
section
variable {X : Cx}
theorem se_opn : True := trivial
def OkF (K : PySem.W.Frag) (bw : List W → GH → QW → Prop) (r : List V → Hp → VK → Prop) : Prop := ∀ ws G Qw vs H Q, bw ws G Qw → RH K G H → Reps K H ws vs → Kt K G H Qw Q → r vs H Q
def OkLf (K : PySem.W.Frag) (bl : List W → (W → Prop) → Prop) (r : List V → Hp → VK → Prop) : Prop := ∀ ws G (Qw : QW) vs H Q D, bl ws (fun w => Qw w G) → RH K G H → SqL K H D vs → Reps K H ws vs → Kt K G H Qw Q → r [.ref D] H Q
theorem maxL_spec : ∀ (r : List Int) (n : Int), maxL n r ∈ n :: r ∧ ∀ y ∈ n :: r, y ≤ maxL n r
  | [], n => ⟨by simp [maxL], by simp [maxL]⟩
  | x :: r, n => by
    obtain ⟨h1, h2⟩ := maxL_spec r (if x > n then x else n)
    simp only [maxL]
    generalize maxL (if x > n then x else n) r = M at *
    constructor
    · rcases List.mem_cons.mp h1 with e | e
      · rw [e]; split <;> simp
      · exact List.mem_cons_of_mem _ (List.mem_cons_of_mem _ e)
    · intro y hy
      have h3 := h2 _ List.mem_cons_self
      rcases List.mem_cons.mp hy with e | hy
      · subst e
        split at h3 <;> omega
      · rcases List.mem_cons.mp hy with e | hy
        · subst e
          split at h3 <;> omega
        · exact h2 y (List.mem_cons_of_mem _ hy)
theorem minL_spec : ∀ (r : List Int) (n : Int), minL n r ∈ n :: r ∧ ∀ y ∈ n :: r, minL n r ≤ y
  | [], n => ⟨by simp [minL], by simp [minL]⟩
  | x :: r, n => by
    obtain ⟨h1, h2⟩ := minL_spec r (if x < n then x else n)
    simp only [minL]
    generalize minL (if x < n then x else n) r = M at *
    constructor
    · rcases List.mem_cons.mp h1 with e | e
      · rw [e]; split <;> simp
      · exact List.mem_cons_of_mem _ (List.mem_cons_of_mem _ e)
    · intro y hy
      have h3 := h2 _ List.mem_cons_self
      rcases List.mem_cons.mp hy with e | hy
      · subst e
        split at h3 <;> omega
      · rcases List.mem_cons.mp hy with e | hy
        · subst e
          split at h3 <;> omega
        · exact h2 y (List.mem_cons_of_mem _ hy)
def biK : BI → Str × Value
  | .len => ("len", .builtin "len") | .abs => ("abs", .builtin "abs") | .max2 => ("max", .builtin "max") | .min2 => ("min", .builtin "min")
  | .int1 => ("int", .type "int") | .str1 => ("str", .type "str") | .tuple1 => ("tuple", .type "tuple") | .sum1 => ("sum", .builtin "sum")
  | .max1 => ("max", .builtin "max") | .min1 => ("min", .builtin "min") | .all1 => ("all", .builtin "all") | .any1 => ("any", .builtin "any")
theorem boot_bi (b : BI) : bootBuiltins (biK b).1 = some (biK b).2 := by cases b <;> decide +kernel
theorem biK_name (b : BI) : ((biK b).1 == ("__debug__" : Str)) = false ∧ (biK b).1 ≠ "__name__" := by cases b <;> exact ⟨by decide +kernel, by decide +kernel⟩
theorem biK_shape (b : BI) : (∃ id, (biK b).2 = .builtin id) ∨ ∃ T, (biK b).2 = .type T := by cases b <;> first | exact .inl ⟨_, rfl⟩ | exact .inr ⟨_, rfl⟩
theorem pe_callV {f : Value} {r : List V → Hp → VK → Prop} {x : Str} {p pos : Pos} {e : Expr} {es : List Expr} {t : TA} (hc : CallR X f r) (hf : (∃ id, f = .builtin id) ∨ ∃ T, f = .type T) (hg : Gl X x) (hm : X.mg x = none) (hv : bootBuiltins x = some f)
    (ha : PA X (e :: es) t) (hn : x ≠ "__name__") (hdb : (x == ("__debug__" : Str)) = false) (hs : notStar e = true) (hss : es.all notStar = true) : PE X (.Call (.Name x p) (e :: es) [] pos) (tCB r t) := by
  rcases hf with ⟨id, rfl⟩ | ⟨T, rfl⟩
  · exact pe_callB hc hg hm hv ha hn hdb (star_of hs) (stars_of hss)
  · exact pe_callTy hc hg hm hv ha hn hdb (star_of hs) (stars_of hss)
theorem se_bi {bw : List W → GH → QW → Prop} {f : Value} {r : List V → Hp → VK → Prop} {x : Str} {p pos : Pos} {e : Expr} {es : List Expr} {t : Sw → GH → (List W → GH → Prop) → Prop} (hc : CallR X f r) (ok : OkF X.K bw r) (hf : (∃ id, f = .builtin id) ∨ ∃ T, f = .type T) (hg : Gl X x) (hm : X.mg x = none) (hv : bootBuiltins x = some f)
    (ha : PA X (e :: es) (LA X.K t)) (hn : x ≠ "__name__") (hdb : (x == ("__debug__" : Str)) = false) (hs : notStar e = true) (hss : es.all notStar = true) : PE X (.Call (.Name x p) (e :: es) [] pos) (LE X.K fun σ G Q => t σ G fun ws G1 => bw ws G1 Q) :=
  peMono (pe_callV hc hf hg hm hv ha hn hdb hs hss) fun σ H Q ⟨σw, G, Qw, sl, rh, h, k⟩ => ⟨σw, G, _, sl, rh, h, fun ws G1 vs H1 h1 st1 rx => ok ws G1 Qw vs H1 Q h1 st1.rh rx (k.stp st1)⟩
theorem se_bil {bl : List W → (W → Prop) → Prop} {f : Value} {r : List V → Hp → VK → Prop} {x : Str} {p pos : Pos} {e : Expr} {t : Sw → GH → (List W → GH → Prop) → Prop} (hc : CallR X f r) (ok : OkLf X.K bl r) (hf : (∃ id, f = .builtin id) ∨ ∃ T, f = .type T) (hg : Gl X x) (hm : X.mg x = none) (hv : bootBuiltins x = some f)
    (he : PE X e (LL X.K t)) (hn : x ≠ "__name__") (hdb : (x == ("__debug__" : Str)) = false) (hs : notStar e = true) : PE X (.Call (.Name x p) [e] [] pos) (LE X.K fun σ G Q => t σ G fun ws G1 => bl ws fun w => Q w G1) :=
  peMono (pe_callV hc hf hg hm hv (pa_cons he pa_nil (star_of hs)) hn hdb hs rfl) fun σ H Q ⟨σw, G, Qw, sl, rh, h, k⟩ => ⟨σw, G, _, sl, rh, h, fun ws G1 vs H1 D h1 st1 hn hd gn rx => ok ws G1 Qw vs H1 Q D h1 st1.rh (.inl (.inl hd)) rx (k.stp st1)⟩
section
variable {K : PySem.W.Frag} {G : GH} {H : Hp}
theorem lstOf_of {x : W} {v : V} {P : List W → Prop} (h : lstOf x G P) (rh : RH K G H) (r : Rep K H x v) : ∃ ws vs a, v = .ref a ∧ SqL K H a vs ∧ Reps K H ws vs ∧ P ws := by
  unfold lstOf at h
  split at h
  · cases r with | clst h1 r1 => exact ⟨_, _, _, rfl, h1.seq, r1, h⟩
  · cases r
    rcases onG_lst h rh with ⟨ws, vs, g1, h1, r1, q⟩ | ⟨o, u, nl, g1, h1, x, q⟩
    · exact ⟨ws, vs, _, rfl, .inl (.inl h1), r1, q⟩
    · exact noL nl x (fun _ _ e _ _ => by subst e; exact q.elim) (fun _ _ _ e _ _ => by subst e; exact q.elim) (fun _ _ e => by subst e; exact q.elim)
  · exact h.elim
theorem seqOf_of {x : W} {v : V} {P : List W → Prop} (h : seqOf x G P) (rh : RH K G H) (r : Rep K H x v) : ∃ ws vs a, v = .ref a ∧ (SqL K H a vs ∨ SqT K H a vs) ∧ Reps K H ws vs ∧ P ws := by
  unfold seqOf at h
  split at h
  · cases r with | tup h1 r1 => exact ⟨_, _, _, rfl, .inr h1, r1, h⟩
  · cases r with | clst h1 r1 => exact ⟨_, _, _, rfl, .inl h1.seq, r1, h⟩
  · cases r
    rcases onG_lst h rh with ⟨ws, vs, g1, h1, r1, q⟩ | ⟨o, u, nl, g1, h1, x, q⟩
    · exact ⟨ws, vs, _, rfl, .inl (.inl (.inl h1)), r1, q⟩
    · exact noL nl x (fun _ _ e _ _ => by subst e; exact q.elim) (fun _ _ _ e _ _ => by subst e; exact q.elim) (fun _ _ e => by subst e; exact q.elim)
  · exact h.elim
end
def rLenA (K : PySem.W.Frag) : List V → Hp → VK → Prop := fun xs H Q => (∃ x n, xs = [x] ∧ LenV K x H n ∧ Q (.int n) H) ∨ ∃ (d : Addr) (kvs : List (Key × V)), xs = [.ref d] ∧ H d = some (.dK kvs) ∧ Q (.int kvs.length) H
theorem bi1_of {K : PySem.W.Frag} {H : Hp} {ws : List W} {vs : List V} {P : W → Prop} (h : bi1 ws P) (r : Reps K H ws vs) : ∃ x v, vs = [v] ∧ Rep K H x v ∧ P x := by
  unfold bi1 at h
  split at h
  · cases r with | cons r1 r2 => cases r2; exact ⟨_, _, rfl, r1, h⟩
  · exact h.elim
theorem bi2i_of {K : PySem.W.Frag} {H : Hp} {ws : List W} {vs : List V} {P : Int → Int → Prop} (h : bi2i ws P) (r : Reps K H ws vs) : ∃ i j, vs = [.int i, .int j] ∧ P i j := by
  unfold bi2i at h
  split at h
  · cases r with | cons r1 r2 => cases r2 with | cons r2 r3 => cases r3; cases r1; cases r2; exact ⟨_, _, rfl, h⟩
  · exact h.elim
theorem okf_len {K : PySem.W.Frag} : OkF K (biF .len) (rLenA K) := by
  intro ws G Qw vs H Q h rh rs k
  obtain ⟨x, v, rfl, r1, h⟩ := bi1_of h rs
  unfold lenOf at h
  split at h
  · cases r1
    exact .inl ⟨_, _, rfl, ⟨h.1, rfl⟩, k.int rh h.2⟩
  · cases r1 with | tup h1 r1 => exact .inl ⟨_, _, rfl, .inr ⟨_, h1, rfl⟩, by rw [← r1.length]; exact k.int rh h⟩
  · cases r1 with | clst h1 r1 => exact .inl ⟨_, _, rfl, .inl ⟨_, h1.seq, rfl⟩, by rw [← r1.length]; exact k.int rh h⟩
  · cases r1
    rcases onG_lst h rh with ⟨ws, vs, g1, h1, r1, q⟩ | ⟨o, u, nl, g1, h1, x, q⟩
    · exact .inl ⟨_, _, rfl, .inl ⟨_, .inl (.inl h1), rfl⟩, by rw [← r1.length]; exact k.int rh q⟩
    · exact noL nl x (fun kvs us e e2 r => by subst e e2; exact .inr ⟨_, _, rfl, h1, by rw [← r.len]; exact k.int rh q⟩) (fun _ _ _ e _ _ => by subst e; exact q.elim) (fun _ _ e => by subst e; exact q.elim)
  · exact h.elim
theorem okl_len {K : PySem.W.Frag} : OkLf K (biL .len) (rLenA K) := by
  intro ws G Qw vs H Q D h rh hd rs k
  exact .inl ⟨_, _, rfl, .inl ⟨_, hd, rfl⟩, by rw [← rs.length]; exact k.int rh h⟩
theorem okf_abs {K : PySem.W.Frag} : OkF K (biF .abs) (fun xs H Q => ∃ i, xs = [.int i] ∧ Q (.int (if i < 0 then -i else i)) H) := by
  intro ws G Qw vs H Q h rh rs k
  obtain ⟨x, v, rfl, r1, h⟩ := bi1_of h rs
  obtain ⟨i, rfl, h⟩ := asInt_of h
  cases r1
  exact ⟨i, rfl, k.int rh h⟩
theorem okf_max2 {K : PySem.W.Frag} : OkF K (biF .max2) (fun xs H Q => ∃ i j, xs = [.int i, .int j] ∧ Q (.int (if j > i then j else i)) H) := by
  intro ws G Qw vs H Q h rh rs k
  obtain ⟨i, j, rfl, h⟩ := bi2i_of h rs
  exact ⟨i, j, rfl, k.int rh h⟩
theorem okf_min2 {K : PySem.W.Frag} : OkF K (biF .min2) (fun xs H Q => ∃ i j, xs = [.int i, .int j] ∧ Q (.int (if j < i then j else i)) H) := by
  intro ws G Qw vs H Q h rh rs k
  obtain ⟨i, j, rfl, h⟩ := bi2i_of h rs
  exact ⟨i, j, rfl, k.int rh h⟩
theorem okf_int1 {K : PySem.W.Frag} : OkF K (biF .int1) (fun xs H Q => (∃ i, xs = [.int i] ∧ Q (.int i) H) ∨ ∃ k, xs = [.bl k] ∧ Q (.int (if k then 1 else 0)) H) := by
  intro ws G Qw vs H Q h rh rs k
  obtain ⟨x, v, rfl, r1, h⟩ := bi1_of h rs
  unfold toInt at h
  split at h
  · cases r1; exact .inl ⟨_, rfl, k.int rh h⟩
  · cases r1; exact .inr ⟨_, rfl, k.int rh h⟩
  · exact h.elim
theorem okf_str1 {K : PySem.W.Frag} : OkF K (biF .str1) (fun xs H Q => ∃ i, xs = [.int i] ∧ i.natAbs.log2 < 1920 ∧ Q (.str (toString i)) H) := by
  intro ws G Qw vs H Q h rh rs k
  obtain ⟨x, v, rfl, r1, h⟩ := bi1_of h rs
  obtain ⟨i, rfl, h⟩ := asInt_of h
  cases r1
  exact ⟨i, rfl, h.1, k.str rh h.2⟩
def rTupA (K : PySem.W.Frag) : List V → Hp → VK → Prop := fun xs H Q => ∃ p ys, xs = [.ref p] ∧ ((SqL K H p ys ∧ ∀ l, H l = none → Q (.ref l) (upd H l (.tup ys))) ∨ (SqT K H p ys ∧ Q (.ref p) H))
theorem okf_tuple1 {K : PySem.W.Frag} : OkF K (biF .tuple1) (rTupA K) := by
  intro ws G Qw vs H Q h rh rs k
  obtain ⟨x, v, rfl, r1, h⟩ := bi1_of h rs
  obtain ⟨us, xs, a, rfl, hs, r2, q⟩ := seqOf_of h rh r1
  rcases hs with hs | hs
  · exact ⟨a, xs, rfl, .inl ⟨hs, fun p hp => k.newT rh q hp r2⟩⟩
  · exact ⟨a, xs, rfl, .inr ⟨hs, k.rep rh q (.tup hs r2)⟩⟩
theorem okl_tuple1 {K : PySem.W.Frag} : OkLf K (biL .tuple1) (rTupA K) := by
  intro ws G Qw vs H Q D h rh hd rs k
  exact ⟨D, vs, rfl, .inl ⟨hd, fun p hp => k.newT rh h hp rs⟩⟩
theorem okf_of {K : PySem.W.Frag} {b : BI} {r : List V → Hp → VK → Prop} (hb : ∀ ws G Q, biF b ws G Q → bi1 ws fun x => lstOf x G fun xs => biL b xs fun w => Q w G) (h : OkLf K (biL b) r) : OkF K (biF b) r := by
  intro ws G Qw vs H Q q rh rs k
  obtain ⟨x, v, rfl, r1, q⟩ := bi1_of (hb _ _ _ q) rs
  obtain ⟨us, xs, a, rfl, hs, r2, q⟩ := lstOf_of q rh r1
  exact h us G Qw xs H Q a q rh hs r2 k
theorem okl_sum1 {K : PySem.W.Frag} : OkLf K (biL .sum1) (rSum K) := by
  intro ws G Qw vs H Q D h rh hd rs k
  obtain ⟨ns, e, h⟩ := onS_of h
  have e2 := rs.ints e
  subst e2
  exact ⟨D, ns, rfl, hd, k.int rh h⟩
theorem okl_all1 {K : PySem.W.Frag} : OkLf K (biL .all1) (rAll K) := by
  intro ws G Qw vs H Q D h rh hd rs k
  obtain ⟨ns, e, h⟩ := onS_of h
  have e2 := rs.bls e
  subst e2
  exact ⟨D, ns, rfl, hd, k.bl rh h⟩
theorem okl_any1 {K : PySem.W.Frag} : OkLf K (biL .any1) (rAny K) := by
  intro ws G Qw vs H Q D h rh hd rs k
  obtain ⟨ns, e, h⟩ := onS_of h
  have e2 := rs.bls e
  subst e2
  exact ⟨D, ns, rfl, hd, k.bl rh h⟩
theorem okl_max1 {K : PySem.W.Frag} : OkLf K (biL .max1) (rMax K) := by
  intro ws G Qw vs H Q D h rh hd rs k
  obtain ⟨ns, e, h⟩ := onS_of h
  have e2 := rs.ints e
  subst e2
  cases ns with
  | nil => exact h.elim
  | cons n r =>
    refine ⟨D, n :: r, rfl, hd, Nat.succ_pos _, fun m hm hle => ?_⟩
    obtain ⟨h1, h2⟩ := maxL_spec r n
    have e3 : m = maxL n r := Int.le_antisymm (h2 m hm) (hle _ h1)
    rw [e3]
    exact k.int rh h
theorem okl_min1 {K : PySem.W.Frag} : OkLf K (biL .min1) (rMin K) := by
  intro ws G Qw vs H Q D h rh hd rs k
  obtain ⟨ns, e, h⟩ := onS_of h
  have e2 := rs.ints e
  subst e2
  cases ns with
  | nil => exact h.elim
  | cons n r =>
    refine ⟨D, n :: r, rfl, hd, Nat.succ_pos _, fun m hm hle => ?_⟩
    obtain ⟨h1, h2⟩ := minL_spec r n
    have e3 : m = minL n r := Int.le_antisymm (hle _ h1) (h2 m hm)
    rw [e3]
    exact k.int rh h
theorem okl_no {K : PySem.W.Frag} {b : BI} {r : List V → Hp → VK → Prop} (h : ∀ xs P, ¬ biL b xs P) : OkLf K (biL b) r := fun _ _ _ _ _ _ _ q _ _ _ _ => (h _ _ q).elim
theorem okBI (hc : X.calm = true) (b : BI) : ∃ r, CallR X (biK b).2 r ∧ OkF X.K (biF b) r ∧ OkLf X.K (biL b) r := by
  cases b with
  | len => exact ⟨_, call_len.or call_lenD, okf_len, okl_len⟩
  | abs => exact ⟨_, call_abs, okf_abs, okl_no fun _ _ h => h⟩
  | max2 => exact ⟨_, call_max2 hc, okf_max2, okl_no fun _ _ h => h⟩
  | min2 => exact ⟨_, call_min2 hc, okf_min2, okl_no fun _ _ h => h⟩
  | int1 => exact ⟨_, call_int1, okf_int1, okl_no fun _ _ h => h⟩
  | str1 => exact ⟨_, call_str_int, okf_str1, okl_no fun _ _ h => h⟩
  | tuple1 => exact ⟨_, call_tuple_of, okf_tuple1, okl_tuple1⟩
  | sum1 => exact ⟨_, cr_sum hc, okf_of (fun _ _ _ h => h) okl_sum1, okl_sum1⟩
  | max1 => exact ⟨_, cr_max hc, okf_of (fun _ _ _ h => h) okl_max1, okl_max1⟩
  | min1 => exact ⟨_, cr_min hc, okf_of (fun _ _ _ h => h) okl_min1, okl_min1⟩
  | all1 => exact ⟨_, cr_all hc, okf_of (fun _ _ _ h => h) okl_all1, okl_all1⟩
  | any1 => exact ⟨_, cr_any hc, okf_of (fun _ _ _ h => h) okl_any1, okl_any1⟩

/-! ### isinstance -/
def tyName : TY → String | .int => "int" | .bool => "bool" | .str => "str" | .tuple => "tuple" | .list => "list" | .dict => "dict" | .non => "NoneType"
theorem kit_all (t u : TY) : kitB (tyName t) (tyName u) = some (tySub t u) := by cases t <;> cases u <;> decide +kernel
theorem boot_ty (t : TY) (h : t ≠ .non) : bootBuiltins (Str.ofString (tyName t)) = some (.type (tyName t)) := by cases t <;> first | exact (h rfl).elim | decide +kernel
theorem ty_of {K : PySem.W.Frag} {G : GH} {H : Hp} {x : W} {v : V} {P : TY → Prop} (h : tyIs x G P) (rh : RH K G H) (r : Rep K H x v) : ∃ t, TyX K H v (.type (tyName t)) ∧ P t := by
  unfold tyIs at h
  split at h
  · cases r; exact ⟨.non, .base .non, h⟩
  · cases r; exact ⟨.bool, .base (.bl _), h⟩
  · cases r; exact ⟨.int, .base (.int _), h⟩
  · cases r; exact ⟨.str, .base (.str _), h⟩
  · cases r with | tup h1 r1 =>
    rcases h1 with (h1 | ⟨o, h1⟩) | ⟨o, its, n, h1, h2, _⟩
    · exact ⟨.tuple, .base (.tup h1), h⟩
    · exact ⟨.tuple, .fTuple h1, h⟩
    · exact ⟨.tuple, .kTuple h1 h2, h⟩
  · cases r with | clst h1 r1 =>
    rcases h1 with ⟨o, h1⟩ | ⟨o, its, n, h1, h2, _⟩
    · exact ⟨.list, .base (.frz h1), h⟩
    · exact ⟨.list, .kList h1 h2, h⟩
  · cases r
    rcases onG_lst h rh with ⟨ws, vs, g1, h1, r1, q⟩ | ⟨o, u, nl, g1, h1, x, q⟩
    · exact ⟨.list, .base (.lst h1), q⟩
    · exact noL nl x (fun kvs us e e2 r => by subst e e2; exact ⟨.dict, .base (.dK h1), q⟩) (fun _ _ _ e _ _ => by subst e; exact q.elim) (fun _ _ e => by subst e; exact q.elim)
theorem kit_list {K : PySem.W.Frag} (t : TY) : ∀ us : List TY, PySem.W.kitAny K (.type (tyName t)) (us.map fun u => .type (tyName u)) = some (us.any fun u => tySub t u)
  | [] => kitAny_nil
  | u :: us => by
    rw [List.map_cons, List.any_cons]
    refine kitAny_cons (kit_ty (kit_all t u)) (fun e => ?_) (fun e => ?_)
    · rw [e, Bool.false_or]; exact kit_list t us
    · rw [e, Bool.true_or]
/-- the classes written as names -/
structure TyNames (X : Cx) (es : List Expr) (ts : List TY) : Prop where
  pa : PA X es (fun _ H Q => Q (ts.map fun u => .ty (tyName u)) H)
theorem tyNames_nil : TyNames X [] [] := ⟨pa_nil⟩
theorem pe_tyn {t : TY} {p : Pos} (hn : t ≠ .non) (hg : Gl X (Str.ofString (tyName t))) (hm : X.mg (Str.ofString (tyName t)) = none) : PE X (.Name (Str.ofString (tyName t)) p) (tC (.ty (tyName t))) :=
  pe_bltn (v := .ty (tyName t)) hg hm (boot_ty t hn) rfl (by cases t <;> decide +kernel) (by cases t <;> decide +kernel)
theorem tyNames_cons {t : TY} {p : Pos} {es : List Expr} {ts : List TY} (hn : t ≠ .non) (hg : Gl X (Str.ofString (tyName t))) (hm : X.mg (Str.ofString (tyName t)) = none) (h : TyNames X es ts) : TyNames X (.Name (Str.ofString (tyName t)) p :: es) (t :: ts) :=
  ⟨paMono (pa_cons (pe_tyn hn hg hm) h.pa) fun σ H Q q => q⟩
theorem se_isi1 {e : Expr} {t : Sw → GH → QW → Prop} {u : TY} {p p2 pos : Pos} (he : PE X e (LE X.K t)) (hn : u ≠ .non) (hg : Gl X "isinstance") (hm : X.mg "isinstance" = none) (hg2 : Gl X (Str.ofString (tyName u))) (hm2 : X.mg (Str.ofString (tyName u)) = none) (hs : notStar e = true) :
    PE X (.Call (.Name "isinstance" p) [e, .Name (Str.ofString (tyName u)) p2] [] pos) (LE X.K fun σ G Q => t σ G fun x G1 => iso x [u] G1 fun c => Q (.bl c) G1) :=
  peMono (pe_callB call_isi hg hm PyProof.Rows.boot_isinstance (pa_cons he (pa_cons (pe_tyn hn hg2 hm2) pa_nil) (star_of hs)) (by decide) (by decide) (star_of hs) rfl) fun σ H Q ⟨σw, G, Qw, sl, rh, h, k⟩ => ⟨σw, G, _, sl, rh, h, fun x G1 v H1 q st r => by
    obtain ⟨tt, ty, p⟩ := ty_of q st.rh r
    refine ⟨v, .ty (tyName u), _, _, tySub tt u, rfl, .ty _, ty, kit_ty (kit_all tt u), ?_⟩
    rw [List.any_cons, List.any_nil, Bool.or_false] at p
    exact (k.stp st).bl st.rh p⟩
theorem se_isiT {e : Expr} {t : Sw → GH → QW → Prop} {us : List TY} {es : List Expr} {p p2 pos : Pos} {x1 : Nat} (he : PE X e (LE X.K t)) (hl : us.length ≤ 100) (hT : TyNames X es us) (hg : Gl X "isinstance") (hm : X.mg "isinstance" = none) (hs : notStar e = true) :
    PE X (.Call (.Name "isinstance" p) [e, .Tuple es x1 p2] [] pos) (LE X.K fun σ G Q => t σ G fun x G1 => iso x us G1 fun c => Q (.bl c) G1) :=
  peMono (pe_callB call_isiT hg hm PyProof.Rows.boot_isinstance (pa_cons he (pa_cons (pe_tup hT.pa) pa_nil) (star_of hs)) (by decide) (by decide) (star_of hs) rfl) fun σ H Q ⟨σw, G, Qw, sl, rh, h, k⟩ => ⟨σw, G, _, sl, rh, h, fun x G1 v H1 q st r => by
    refine ⟨by rw [List.length_map]; exact Nat.le_trans hl (by rw [sizeLine_eq]; decide), fun tp htp => ?_⟩
    have st2 := st.trans (Stp.newH (o := .tup (us.map fun u => .ty (tyName u))) st.rh htp)
    have r2 := r.kept (Kept.new (o := .tup (us.map fun u => .ty (tyName u))) htp)
    obtain ⟨tt, ty, p⟩ := ty_of q st2.rh r2
    have pc : ∀ us : List TY, Paired ClsV (us.map fun u => V.ty (tyName u)) (us.map fun u => Value.type (tyName u)) := fun us => by
      induction us with
      | nil => exact .nil
      | cons u us ih => exact .cons (.ty _) ih
    exact ⟨v, tp, _, _, _, _, rfl, upd_same, pc us, ty, kit_list tt us, (k.stp st2).bl st2.rh p⟩⟩
/-- a fresh list that is seen from now on -/
theorem se_ofl {e : Expr} {t : Sw → GH → (List W → GH → Prop) → Prop} (he : PE X e (LL X.K t)) : PE X e (LE X.K fun σ G Q => t σ G fun ws G1 => newo G1 (.lst ws) Q) :=
  peMono he fun σ H Q ⟨σw, G, Qw, sl, rh, h, k⟩ => ⟨σw, G, _, sl, rh, h, fun ws G1 vs H1 D h1 st1 hn hd gn r => k _ _ _ _ (h1 D gn) (st1.show_ hn hd r) (.ref D)⟩
/-- the pairs of a dict's display -/
theorem rep_put {K : PySem.W.Frag} {H : Hp} {κ : Type} [DecidableEq κ] {kvs : List (κ × W)} {us : List (κ × V)} {k : κ} {w : W} {v : V} (r : RepKV K H kvs us) (h : Rep K H w v) : RepKV K H (putW kvs k w) (putK us k v) := by
  have hany : (kvs.any fun kv => decide (kv.1 = k)) = (us.any fun kv => decide (kv.1 = k)) := by
    induction r with
    | nil => rfl
    | cons h t ih => rw [List.any_cons, List.any_cons, ih, h.1]
  unfold putW putK
  rw [hany]
  split
  · rename_i h0
    clear h0 hany
    induction r with
    | nil => exact .nil
    | @cons p q ps qs h2 t ih =>
      rw [List.map_cons, List.map_cons]
      refine .cons ?_ ih
      rw [h2.1]
      by_cases e : q.1 = k
      · rw [if_pos e, if_pos e]; exact ⟨rfl, h⟩
      · rw [if_neg e, if_neg e]; exact ⟨h2.1, h2.2⟩
  · rename_i h0
    clear h0 hany
    induction r with
    | nil => exact .cons ⟨rfl, h⟩ .nil
    | cons h2 t ih => exact .cons h2 ih
theorem rep_merge {K : PySem.W.Frag} {H : Hp} {more : List (Key × W)} {ms : List (Key × V)} (r : RepKV K H more ms) : ∀ {kvs : List (Key × W)} {us : List (Key × V)}, RepKV K H kvs us → RepKV K H (mergeW kvs more) (mergeK us ms) := by
  induction r with
  | nil => intro kvs us h; exact h
  | @cons p q ps qs h t ih =>
    intro kvs us h2
    show RepKV K H (mergeW (putW kvs p.1 p.2) ps) (mergeK (putK us q.1 q.2) qs)
    rw [h.1]
    exact ih (rep_put h2 h.2)
structure LKV (X : Cx) (pos : Pos) (keys : List (Option Expr)) (values : List Expr) (t : Sw → GH → (List (Key × W) → GH → Prop) → Prop) : Prop where
  ex : ∃ trs, PPs X pos keys values trs ∧ ∀ σ H Q, (∃ σw G Qw, Sl X.K H σw σ ∧ RH X.K G H ∧ t σw G Qw ∧ ∀ ps G' us H', Qw ps G' → Stp X.K G H G' H' → RepKV X.K H' ps us → Q (us.map fun kv => (kV kv.1, kv.2)) H') → tPairs trs σ H Q
theorem lkv_nil {pos : Pos} : LKV X pos [] [] (fun _ G Q => Q [] G) := ⟨⟨[], pps_nil, fun σ H Q ⟨σw, G, Qw, sl, rh, q, k⟩ => k [] G [] H q (.refl rh) .nil⟩⟩
theorem lkv_cons {pos : Pos} {k v : Expr} {ks : List (Option Expr)} {vs : List Expr} {tk tv : Sw → GH → QW → Prop} {t : Sw → GH → (List (Key × W) → GH → Prop) → Prop} (hk : PE X k (LE X.K tk)) (hv : PE X v (LE X.K tv)) (hr : LKV X pos ks vs t) :
    LKV X pos (some k :: ks) (v :: vs) (fun σ G Q => tk σ G fun x G1 => onS (keyOf x) fun key => tv σ G1 fun y G2 => t σ G2 fun ps G3 => Q ((key, y) :: ps) G3) := by
  obtain ⟨trs, h1, h2⟩ := hr.ex
  refine ⟨_, pps_cons hk hv h1, fun σ H Q ⟨σw, G, Qw, sl, rh, h, k⟩ => ⟨σw, G, _, sl, rh, h, fun x G1 vx H1 q1 st1 rx => ?_⟩⟩
  obtain ⟨key, ek, q1⟩ := onS_of q1
  have e1 := keyOf_rep ek (.inl rx)
  subst e1
  refine ⟨σw, G1, _, sl.stp rh st1, st1.rh, q1, fun y G2 vy H2 q2 st2 ry => ?_⟩
  refine h2 σ H2 _ ⟨σw, G2, _, sl.stp rh (st1.trans st2), st2.rh, q2, fun ps G3 us H3 q3 st3 rs => ?_⟩
  exact k _ G3 ((key, vy) :: us) H3 q3 ((st1.trans st2).trans st3) (.cons ⟨rfl, ry.stp st2.rh st3⟩ rs)
theorem se_dic {pos : Pos} {keys : List (Option Expr)} {values : List Expr} {t : Sw → GH → (List (Key × W) → GH → Prop) → Prop} (h : LKV X pos keys values t) (hall : keys.all (·.isSome) = true) (hl : keys.length = values.length) (h0 : keys ≠ []) (h15 : keys.length ≤ 15) :
    PE X (.Dict keys values pos) (LE X.K fun σ G Q => t σ G fun ps G1 => ps.length ≤ 15 ∧ newo G1 (.dct (mergeW [] ps)) Q) := by
  obtain ⟨trs, h1, h2⟩ := h.ex
  refine peMono (pe_disp h1 hall hl h0 h15) fun σ H Q ⟨σw, G, Qw, sl, rh, h, k⟩ => fun p hp => ?_
  have st0 : Stp X.K G H G (upd H p (.dK [])) := Stp.newH rh hp
  refine h2 σ _ _ ⟨σw, G, _, sl.stp rh st0, st0.rh, h, fun ps G1 us H1 q st1 rs => ?_⟩
  obtain ⟨e1, g1⟩ := st1.hid p _ upd_same (rh.free hp)
  refine ⟨e1, us, rfl, by rw [← rs.len]; exact q.1, ?_⟩
  have st2 : StpX X.K p G1 H1 (gup G1 p (.dct (mergeW [] ps))) (upd H1 p (.dK (mergeK [] us))) := Stp.openO st1.rh g1 e1 trivial (.dct (rep_merge rs .nil))
  exact k _ _ _ _ (q.2 p g1) (Stp.skip (st0.trans st1) hp st2) (.ref p)
/-- an empty dict -/
theorem se_dic0 {pos : Pos} : PE X (.Dict [] [] pos) (LE X.K fun _ G Q => 0 ≤ 15 ∧ newo G (.dct []) Q) :=
  peMono pe_dnewK fun σ H Q ⟨σw, G, Qw, sl, rh, h, k⟩ => fun d hd => k _ _ _ _ (h.2 d (rh.free hd)) (Stp.newD rh hd) (.ref d)
/-- d.get(k, x) -/
theorem isDct_of {K : PySem.W.Frag} {x : W} {v : V} {G : GH} {H : Hp} {P : Prop} (h : isDct x G P) (rh : RH K G H) (r : Rep K H x v) : ∃ a, v = .ref a ∧ L2.IsD H a ∧ P := by
  unfold isDct at h
  split at h
  · cases r
    rcases onG_lst h rh with ⟨ws, vs, g1, h1, r1, q⟩ | ⟨o, u, nl, g1, h1, x, q⟩
    · exact q.elim
    · exact noL nl x (fun kvs us e e2 r => by subst e e2; exact ⟨_, rfl, .inl ⟨_, .inl h1⟩, q⟩) (fun kvs us od e e2 r => by subst e e2; exact ⟨_, rfl, .inl ⟨_, .inr ⟨_, h1⟩⟩, q⟩) (fun _ _ e => by subst e; exact q.elim)
  · exact h.elim
theorem opGet_of {K : PySem.W.Frag} {x y z : W} {vx vy vz : V} {G : GH} {H : Hp} {Qw : QW} {Q : VK} (h : opGet x y z G Qw) (rh : RH K G H) (rx : Rep K H x vx) (ry : Rep K H y vy) (rz : Rep K H z vz) (k : Kt K G H Qw Q) : ∃ a o, vx = .ref a ∧ DGet H a vy o ∧ Q (o.getD vz) H := by
  unfold opGet at h
  split at h
  · cases rx
    rcases onG_lst h rh with ⟨ws, vs, g1, h1, r1, q⟩ | ⟨o, u, nl, g1, h1, x, q⟩
    · exact q.elim
    · refine noL nl x (fun kvs us e e2 r => ?_) (fun kvs us od e e2 r => ?_) (fun _ _ e => by subst e; exact q.elim)
      · subst e e2
        obtain ⟨ky, ek, q⟩ := onS_of q
        refine ⟨_, _, rfl, .inl ⟨us, ky, .inl h1, keyOf_rep ek (.inl ry), rfl⟩, k.rep rh q ?_⟩
        rcases val_rep r ky with ⟨e1, e2⟩ | ⟨w2, v, e1, e2, rw_⟩
        · rw [e1, e2]; exact rz
        · rw [e1, e2]; exact rw_
      · subst e e2
        obtain ⟨ky, ek, q⟩ := onS_of q
        refine ⟨_, _, rfl, .inl ⟨us, ky, .inr ⟨_, h1⟩, keyOf_rep ek (.inl ry), rfl⟩, k.rep rh q ?_⟩
        rcases val_rep r ky with ⟨e1, e2⟩ | ⟨w2, v, e1, e2, rw_⟩
        · rw [e1, e2]; exact rz
        · rw [e1, e2]; exact rw_
  · exact h.elim
theorem se_get2 {o e f : Expr} {apos cpos : Pos} {td ty tx : Sw → GH → QW → Prop} (hu : Room 0 X.A) (ho : PE X o (LE X.K td)) (he : PE X e (LE X.K ty)) (hf : PE X f (LE X.K tx)) (m : M2 X o "get" apos e f cpos) :
    PE X (.Call (.Attribute o "get" apos) [e, f] [] cpos) (LE X.K fun σ G Q => td σ G fun x G1 => isDct x G1 (ty σ G1 fun y G2 => tx σ G2 fun z G3 => opGet x y z G3 Q)) :=
  peMono (pe_dget2 (dLine1 hu) ho he hf m) fun σ H Q ⟨σw, G, Qw, sl, rh, h, k⟩ => ⟨σw, G, _, sl, rh, h, fun x G1 vx H1 h1 st1 rx => by
    obtain ⟨a, rfl, d, h1⟩ := isDct_of h1 st1.rh rx
    refine ⟨a, rfl, d, σw, G1, _, sl.stp rh st1, st1.rh, h1, fun y G2 vy H2 h2 st2 ry => ?_⟩
    have s12 := st1.trans st2
    refine ⟨σw, G2, _, sl.stp rh s12, st2.rh, h2, fun z G3 vz H3 h3 st3 rz => ?_⟩
    obtain ⟨a2, o, e, g, q⟩ := opGet_of h3 st3.rh (rx.stp st1.rh (st2.trans st3)) (ry.stp st2.rh st3) rz (k.stp (s12.trans st3))
    cases e
    exact ⟨o, g, q⟩⟩
end
end PV
/-! PVG: methods of built-in types, loops, comprehensions, statements -/
namespace PV
open PySem PySem.Spec L2
open PyProof.Rows hiding St
section
variable {X : Cx}
/-! ### methods -/
theorem onL_of {K : PySem.W.Frag} {G : GH} {H : Hp} {x : W} {v : V} {P : Addr → List W → Prop} (h : onL x G P) (rh : RH K G H) (r : Rep K H x v) : ∃ a ws vs, v = .ref a ∧ G a = some (.lst ws) ∧ H a = some (.lst vs) ∧ Reps K H ws vs ∧ P a ws := by
  unfold onL at h
  split at h
  · cases r
    rcases onG_lst h rh with ⟨ws, vs, g1, h1, r1, q⟩ | ⟨o, u, nl, g1, h1, x, q⟩
    · exact ⟨_, ws, vs, rfl, g1, h1, r1, q⟩
    · exact noL nl x (fun _ _ e _ _ => by subst e; exact q.elim) (fun _ _ _ e _ _ => by subst e; exact q.elim) (fun _ _ e => by subst e; exact q.elim)
  · exact h.elim
def OkM (K : PySem.W.Frag) (T : String) (m : BM) (r : V → List V → Hp → VK → Prop) : Prop := (∀ x G P v H, bmTy m x G P → RH K G H → Rep K H x v → tyV K T v H ∧ P) ∧
  ∀ x ws G Qw v vs H Q, bmF m x ws G Qw → RH K G H → Rep K H x v → Reps K H ws vs → Kt K G H Qw Q → r v vs H Q
theorem se_bm {T id : String} {name : Str} {m : BM} {r : V → List V → Hp → VK → Prop} {o e : Expr} {es : List Expr} {ta : Sw → GH → QW → Prop} {t : Sw → GH → (List W → GH → Prop) → Prop} {apos cpos : Pos} (pa : PlainAttrs T) (slot : Slot T name id) (hty : typeOf (.builtin id) = pure (.type "method_descriptor")) (hm : MtR X id r) (ok : OkM X.K T m r)
    (ho : PE X o (LE X.K ta)) (ha : PA X (e :: es) (LA X.K t)) (hbase : attributeBase o name X.env (eval o X.env) = eval o X.env) (hlen : es.length < 20) (hline : (apos.endLine == cpos.line) = true) (hs : notStar e = true) (hss : es.all notStar = true) :
    PE X (.Call (.Attribute o name apos) (e :: es) [] cpos) (LE X.K fun σ G Q => ta σ G fun x G1 => bmTy m x G1 (t σ G1 fun ws G2 => bmF m x ws G2 Q)) := by
  have hall : ∀ es : List Expr, es.all notStar = true → (backTo cpos (starEach es X.env)).all (fun x => !x.1) = true := fun es => by
    induction es with
    | nil => intro _; rfl
    | cons e es ih =>
      intro h
      rw [List.all_cons, Bool.and_eq_true] at h
      rw [star_of h.1]
      show (true && (backTo cpos (starEach es X.env)).all (fun x => !x.1)) = true
      rw [ih h.2]; rfl
  have hfew : ((backTo cpos (starEach (e :: es) X.env)).all (fun x => !x.1) && (backToKw cpos (keywordEach [] X.env)).all (fun x => x.1.isSome)
      && decide ((e :: es).length + ([] : List Keyword).length + (if ([] : List Keyword).isEmpty then 0 else 1) < 30)) = true := by
    rw [hall (e :: es) (by rw [List.all_cons, hs, hss]; rfl)]
    show decide (es.length + 1 + 0 + 0 < 30) = true
    exact decide_eq_true (by omega)
  refine peMono (pe_bm pa slot hty hm ho ha hbase hfew hline (star_of hs) (stars_of hss)) fun σ H Q ⟨σw, G, Qw, sl, rh, h, k⟩ => ⟨σw, G, _, sl, rh, h, fun x G1 v H1 h1 st1 r1 => ?_⟩
  obtain ⟨ty, p⟩ := ok.1 x G1 _ v H1 h1 st1.rh r1
  exact ⟨ty, σw, G1, _, sl.stp rh st1, st1.rh, p, fun ws G2 vs H2 h2 st2 r2 => ok.2 x ws G2 Qw v vs H2 Q h2 st2.rh (r1.stp st1.rh st2) r2 (k.stp (st1.trans st2))⟩
theorem se_bm0 {T id : String} {name : Str} {m : BM} {r : V → List V → Hp → VK → Prop} {o : Expr} {ta : Sw → GH → QW → Prop} {apos cpos : Pos} (pa : PlainAttrs T) (slot : Slot T name id) (hty : typeOf (.builtin id) = pure (.type "method_descriptor")) (hm : MtR X id r) (ok : OkM X.K T m r)
    (ho : PE X o (LE X.K ta)) (hbase : attributeBase o name X.env (eval o X.env) = eval o X.env) (hline : (apos.endLine == cpos.line) = true) :
    PE X (.Call (.Attribute o name apos) [] [] cpos) (LE X.K fun σ G Q => ta σ G fun x G1 => bmTy m x G1 (bmF m x [] G1 Q)) :=
  peMono (pe_bm0 pa slot hty hm ho hbase hline) fun σ H Q ⟨σw, G, Qw, sl, rh, h, k⟩ => ⟨σw, G, _, sl, rh, h, fun x G1 v H1 h1 st1 r1 => by
    obtain ⟨ty, p⟩ := ok.1 x G1 _ v H1 h1 st1.rh r1
    exact ⟨ty, ok.2 x [] G1 Qw v [] H1 Q p st1.rh r1 .nil (k.stp st1)⟩⟩
theorem listTy {K : PySem.W.Frag} {x : W} {G : GH} {P : Prop} {v : V} {H : Hp} (h : (match x with | .ref a => onG G a fun o => (match o with | .lst _ => P | _ => False) | _ => False)) (rh : RH K G H) (r : Rep K H x v) : tyV K "list" v H ∧ P := by
  have h2 : onL x G fun _ _ => P := h
  obtain ⟨a, ws, vs, rfl, _, h1, _, p⟩ := onL_of h2 rh r
  exact ⟨.inl ⟨rfl, _, .inl (.inl h1)⟩, p⟩
theorem okm_strip {K : PySem.W.Frag} : OkM K "str" .strip1 (fun x xs H Q => ∃ a b, x = .str a ∧ xs = [.str b] ∧ a.length ≤ sizeLine ∧ Q (.str (Txt.stripChars a b)) H) := by
  refine ⟨fun x G P v H h rh r => ?_, fun x ws G Qw v vs H Q h rh r rs k => ?_⟩
  · simp only [bmTy] at h
    split at h
    · cases r; exact ⟨rfl, h⟩
    · exact h.elim
  · simp only [bmF] at h
    split at h
    · cases r
      cases rs with | cons r1 rs => cases rs; cases r1; exact ⟨_, _, rfl, rfl, h.1, k.str rh h.2⟩
    · exact h.elim
theorem okm_append {K : PySem.W.Frag} : OkM K "list" .append rAppend := by
  refine ⟨fun x G P v H h rh r => listTy h rh r, fun x ws G Qw v vs H Q h rh r rs k => ?_⟩
  obtain ⟨a, us, xs, rfl, g1, h1, r1, p⟩ := onL_of h rh r
  obtain ⟨y, u, rfl, r2, p, q⟩ := bi1_of p rs
  exact ⟨a, xs, u, rfl, rfl, h1, by rw [← r1.length]; exact p, k _ _ _ _ q (Stp.setL rh g1 h1 (r1.append (.cons r2 .nil))) .non⟩
theorem okm_pop {K : PySem.W.Frag} : OkM K "list" .lpop rPop := by
  refine ⟨fun x G P v H h rh r => listTy h rh r, fun x ws G Qw v vs H Q h rh r rs k => ?_⟩
  obtain ⟨a, us, xs, rfl, g1, h1, r1, p⟩ := onL_of h rh r
  split at p
  · cases rs
    obtain ⟨w, e, q⟩ := onS_of p
    obtain ⟨y, e2, ry⟩ := r1.get e
    have st := Stp.setL rh g1 h1 r1.dropLast
    exact ⟨a, xs, y, rfl, rfl, h1, by rw [← r1.length]; exact e2, k _ _ _ _ q st (ry.stp rh st)⟩
  · exact p.elim
theorem okm_pop1 {K : PySem.W.Frag} : OkM K "list" .lpop1 rPopAt := by
  refine ⟨fun x G P v H h rh r => listTy h rh r, fun x ws G Qw v vs H Q h rh r rs k => ?_⟩
  obtain ⟨a, us, xs, rfl, g1, h1, r1, p⟩ := onL_of h rh r
  obtain ⟨y, u, rfl, r2, p⟩ := bi1_of p rs
  obtain ⟨i, rfl, p⟩ := asInt_of p
  cases r2
  obtain ⟨j, e, p1, p2, q⟩ := onS_of p
  obtain ⟨w, e3, q⟩ := onS_of q
  obtain ⟨y, e2, ry⟩ := r1.get e3
  have st := Stp.setL rh g1 h1 (r1.eraseIdx j)
  exact ⟨a, xs, i, j, y, rfl, rfl, h1, p1, p2, by rw [← r1.length]; exact e, e2, k _ _ _ _ q st (ry.stp rh st)⟩

/-! ### what is walked -/
structure ItW (K : PySem.W.Frag) (J : It) (items : List W) (still : GH → Prop) (G0 : GH) (H0 : Hp) : Prop where
  go : ∀ i G H, Stp K G0 H0 G H → still G → i < items.length → J.go i H ∧ ∀ x H', J.yld i H x H' → Stp K G H G H' ∧ ∃ w, items[i]? = some w ∧ Rep K H' w x
  stop : ∀ i G H, Stp K G0 H0 G H → still G → items.length ≤ i → J.stop i H
def LI (K : PySem.W.Frag) (t : Sw → GH → (List W → (GH → Prop) → GH → Prop) → Prop) : TI := fun σ H R => ∃ σw G Rw, Sl K H σw σ ∧ RH K G H ∧ t σw G Rw ∧
  ∀ items still G' J H', Rw items still G' → Stp K G H G' H' → ItW K J items still G' H' → R J H'
theorem piMono {tg e : Expr} {t t' : TI} (h : PI X tg e t) (m : ∀ σ H R, t' σ H R → t σ H R) : PI X tg e t' := ⟨fun pins s σ H R I q => h.run pins s σ H R I (m σ H R q)⟩
def tAny (K : PySem.W.Frag) (te : TE) : TI := fun σ H R => te σ H fun x H1 => (∃ a, x = .ref a ∧ (∃ xs, SqL K H1 a xs) ∧ R (Itl K a) H1) ∨ (∃ a, x = .ref a ∧ (∃ xs, SqT K H1 a xs) ∧ R (Itt K a) H1) ∨ ∃ z, x = .str z ∧ R (Its z) H1
theorem pi_any {tg e : Expr} {te : TE} (he : PE X e te) : PI X tg e (tAny X.K te) := by
  refine ⟨fun pins s σ H R I h => ?_⟩
  refine thn (he.run pins s σ H _ I h) fun v s1 ⟨x, H1, I1, r1, q1⟩ => ?_
  rcases q1 with ⟨a, e, ⟨xs, hq⟩, q⟩ | ⟨a, e, ⟨xs, hq⟩, q⟩ | ⟨x, ex, q⟩
  · subst e
    cases r1
    obtain ⟨its, rv, p, hz⟩ := I1.list hq
    refine wpAny_pyIter_list p.isList ?_
    refine ⟨s1.heap.objs.size, [s1.heap.objs.size], _, _, H1, rfl, I1.kept (t' := s1.toks) fun b o e => Heap.get?_push_of_some _ e, turn_list a _, ⟨_, Heap.get?_push_size _ rfl, rfl, rfl⟩, fun b hb => ?_, q⟩
    have e : b = s1.heap.objs.size := by simpa using hb
    subst e
    exact I1.fpOk (Nat.le_refl _) (I1.hok.fresh (Nat.le_refl _))
  · subst e
    cases r1
    obtain ⟨its, rv, p, hz⟩ := I1.tuple hq
    refine wpAny_pyIter_tuple (show s1.heap.IsTuple a its.toArray from p) ?_
    refine ⟨s1.heap.objs.size, [s1.heap.objs.size], _, _, H1, rfl, I1.kept (t' := s1.toks) fun b o e => Heap.get?_push_of_some _ e, turn_tuple a _, ⟨_, Heap.get?_push_size _ rfl, rfl, rfl⟩, fun b hb => ?_, q⟩
    have e : b = s1.heap.objs.size := by simpa using hb
    subst e
    exact I1.fpOk (Nat.le_refl _) (I1.hok.fresh (Nat.le_refl _))
  · subst ex
    obtain ⟨t, rfl⟩ := r1
    cases ha : x.cps.all (· < 128)
    · exact wpAny_pyIter_wide ha (pi_one (tk := s1.toks) I1 _ (turn_str _ x t "str_iterator" (.inr rfl)) ⟨_, Heap.get?_push_size _ rfl, rfl, rfl⟩ q)
    · exact wpAny_pyIter_ascii ha (pi_one (tk := s1.toks) I1 _ (turn_str _ x t "str_ascii_iterator" (.inl rfl)) ⟨_, Heap.get?_push_size _ rfl, rfl, rfl⟩ q)
theorem Reps.getLt {K : PySem.W.Frag} {H : Hp} {ws : List W} {vs : List V} {i : Nat} (r : Reps K H ws vs) (h : i < ws.length) : ∃ w v, ws[i]? = some w ∧ vs[i]? = some v ∧ Rep K H w v := by
  obtain ⟨v, h1, h2⟩ := r.get (List.getElem?_eq_getElem h)
  exact ⟨_, v, List.getElem?_eq_getElem h, h1, h2⟩
theorem itw_list {K : PySem.W.Frag} {a : Addr} {ws : List W} {G0 : GH} {H0 : Hp} : ItW K (Itl K a) ws (fun G => G a = some (.lst ws)) G0 H0 := by
  refine ⟨fun i G H st g hi => ?_, fun i G H st g hi => ?_⟩
  · obtain ⟨vs, h1, r⟩ := (st.rh a _ g).lst_
    obtain ⟨w, v, e1, e2, r1⟩ := r.getLt hi
    refine ⟨⟨vs, v, .inl (.inl h1), e2⟩, fun x H' y => ?_⟩
    obtain ⟨e, y⟩ := y
    subst e
    have := y vs (.inl (.inl h1))
    rw [e2] at this; cases this
    exact ⟨.refl st.rh, w, e1, r1⟩
  · obtain ⟨vs, h1, r⟩ := (st.rh a _ g).lst_
    exact ⟨vs, .inl (.inl h1), by rw [← r.length]; exact hi⟩
/-- a list that stays as it is whatever is done -/
theorem itw_fix {K : PySem.W.Frag} {a : Addr} {ws : List W} {vs : List V} {G0 : GH} {H0 : Hp} (hS : ∀ G H, Stp K G0 H0 G H → SqL K H a vs ∧ Reps K H ws vs) : ItW K (Itl K a) ws (fun _ => True) G0 H0 := by
  refine ⟨fun i G H st g hi => ?_, fun i G H st g hi => ?_⟩
  · obtain ⟨h1, r⟩ := hS G H st
    obtain ⟨w, v, e1, e2, r1⟩ := r.getLt hi
    refine ⟨⟨vs, v, h1, e2⟩, fun x H' y => ?_⟩
    obtain ⟨e, y⟩ := y
    subst e
    have := y vs h1
    rw [e2] at this; cases this
    exact ⟨.refl st.rh, w, e1, r1⟩
  · obtain ⟨h1, r⟩ := hS G H st
    exact ⟨vs, h1, by rw [← r.length]; exact hi⟩
theorem itw_tup {K : PySem.W.Frag} {a : Addr} {ws : List W} {vs : List V} {G0 : GH} {H0 : Hp} (rh : RH K G0 H0) (hT : SqT K H0 a vs) (r0 : Reps K H0 ws vs) : ItW K (Itt K a) ws (fun _ => True) G0 H0 := by
  refine ⟨fun i G H st g hi => ?_, fun i G H st g hi => ?_⟩
  · have h1 := SqT.kept (st.kept rh) hT
    obtain ⟨w, v, e1, e2, r1⟩ := (r0.stp rh st).getLt hi
    refine ⟨⟨vs, v, h1, e2⟩, fun x H' y => ?_⟩
    obtain ⟨e, y⟩ := y
    subst e
    have := y vs h1
    rw [e2] at this; cases this
    exact ⟨.refl st.rh, w, e1, r1⟩
  · exact ⟨vs, SqT.kept (st.kept rh) hT, by rw [← r0.length]; exact hi⟩
theorem itw_str {K : PySem.W.Frag} {z : Str} {G0 : GH} {H0 : Hp} : ItW K (Its z) (signsW z) (fun _ => True) G0 H0 := by
  have hl : (signsW z).length = z.cps.size := by unfold signsW; rw [List.length_map, Array.length_toList]
  refine ⟨fun i G H st g hi => ?_, fun i G H st g hi => ?_⟩
  · refine ⟨by rw [hl] at hi; exact hi, fun x H' y => ?_⟩
    obtain ⟨e, c, hc, y⟩ := y
    subst e y
    refine ⟨.refl st.rh, _, ?_, .str _⟩
    unfold signsW
    rw [List.getElem?_map, Array.getElem?_toList, hc]
    rfl
  · show z.cps.size ≤ i
    rw [← hl]; exact hi
theorem itw_rng {K : PySem.W.Frag} {lo : Int} {n : Nat} {G0 : GH} {H0 : Hp} : ItW K (Itr lo n) (rngW lo n) (fun _ => True) G0 H0 := by
  have hl : (rngW lo n).length = n := by unfold rngW; rw [List.length_map, List.length_range]
  refine ⟨fun i G H st g hi => ?_, fun i G H st g hi => ?_⟩
  · rw [hl] at hi
    refine ⟨hi, fun x H' y => ?_⟩
    obtain ⟨e, y⟩ := y
    subst e y
    refine ⟨.refl st.rh, _, ?_, .int _⟩
    unfold rngW
    rw [List.getElem?_map, List.getElem?_range hi]
    rfl
  · show n ≤ i
    rw [← hl]; exact hi
theorem si_seq {tg e : Expr} {t : Sw → GH → QW → Prop} (he : PE X e (LE X.K t)) : PI X tg e (LI X.K fun σ G R => t σ G fun x G1 => walkOf x G1 fun xs st => R xs st G1) :=
  piMono (pi_any he) fun σ H R ⟨σw, G, Rw, sl, rh, h, k⟩ => ⟨σw, G, _, sl, rh, h, fun x G1 v H1 h1 st1 r1 => by
    have h1 : walkOf x G1 fun xs st => Rw xs st G1 := h1
    unfold walkOf at h1
    split at h1
    · cases r1 with | tup hT r2 => exact .inr (.inl ⟨_, rfl, ⟨_, hT⟩, k _ _ _ _ _ h1 st1 (itw_tup st1.rh hT r2)⟩)
    · cases r1 with | clst hL r2 => exact .inl ⟨_, rfl, ⟨_, hL.seq⟩, k _ _ _ _ _ h1 st1 (itw_fix fun G H st => ⟨(hL.kept (st.kept st1.rh)).seq, r2.stp st1.rh st⟩)⟩
    · cases r1; exact .inr (.inr ⟨_, rfl, k _ _ _ _ _ h1 st1 itw_str⟩)
    · cases r1
      rcases onG_lst h1 st1.rh with ⟨ws, vs, g1, h2, r1, q⟩ | ⟨o, u, nl, g1, h1, x, q⟩
      · exact .inl ⟨_, rfl, ⟨_, .inl (.inl h2)⟩, k _ _ _ _ _ q st1 itw_list⟩
      · exact noL nl x (fun _ _ e _ _ => by subst e; exact q.elim) (fun _ _ _ e _ _ => by subst e; exact q.elim) (fun _ _ e => by subst e; exact q.elim)
    · exact h1.elim⟩
/-- over a fresh list -/
theorem si_seql {tg e : Expr} {t : Sw → GH → (List W → GH → Prop) → Prop} (he : PE X e (LL X.K t)) : PI X tg e (LI X.K fun σ G R => t σ G fun ws G1 => R ws (fun _ => True) G1) :=
  piMono (pi_list he) fun σ H R ⟨σw, G, Rw, sl, rh, h, k⟩ => ⟨σw, G, _, sl, rh, h, fun ws G1 vs H1 D h1 st1 hn hd gn r => ⟨D, rfl, ⟨_, .inl (.inl hd)⟩, k _ _ _ _ _ h1 st1 (itw_fix fun G H st => ⟨.inl (.inl (st.hid _ _ hd gn).1), r.stp st1.rh st⟩)⟩⟩
theorem si_rng1 {tg a : Expr} {t : Sw → GH → QW → Prop} {p pos : Pos} (hg : Gl X "range") (hm : X.mg "range" = none) (ha : PE X a (LE X.K t)) (hs : notStar a = true) : PI X tg (.Call (.Name "range" p) [a] [] pos) (LI X.K fun σ G R => t σ G fun x G1 => asInt x fun j => rngOk j ∧ R (rngW 0 j.toNat) (fun _ => True) G1) :=
  piMono (pi_range1 hg hm (pa_cons ha pa_nil (star_of hs)) (star_of hs)) fun σ H R ⟨σw, G, Rw, sl, rh, h, k⟩ => ⟨σw, G, _, sl, rh, h, fun x G1 v H1 h1 st1 r1 => by
    obtain ⟨j, rfl, ⟨h2, h3⟩, q⟩ := asInt_of h1
    cases r1
    exact ⟨j, rfl, h2, h3, k _ _ _ _ _ q st1 itw_rng⟩⟩
theorem si_rng2 {tg a b : Expr} {ta tb : Sw → GH → QW → Prop} {p pos : Pos} (hg : Gl X "range") (hm : X.mg "range" = none) (ha : PE X a (LE X.K ta)) (hb : PE X b (LE X.K tb)) (hs : notStar a = true) (hs2 : notStar b = true) :
    PI X tg (.Call (.Name "range" p) [a, b] [] pos) (LI X.K fun σ G R => ta σ G fun x G1 => tb σ G1 fun y G2 => asInt x fun i => asInt y fun j => rngOk i ∧ rngOk j ∧ R (rngW i (j - i).toNat) (fun _ => True) G2) :=
  piMono (pi_range2 hg hm (pa_cons ha (pa_cons hb pa_nil (star_of hs2)) (star_of hs)) (by rw [star_of hs, star_of hs2]; rfl) (star_of hs2)) fun σ H R ⟨σw, G, Rw, sl, rh, h, k⟩ => ⟨σw, G, _, sl, rh, h, fun x G1 v H1 h1 st1 r1 => ⟨σw, G1, _, sl.stp rh st1, st1.rh, h1, fun y G2 u H2 h2 st2 r2 => by
    obtain ⟨i, rfl, h3⟩ := asInt_of h2
    obtain ⟨j, rfl, o1, o2, q⟩ := asInt_of h3
    cases r1; cases r2
    exact ⟨i, j, rfl, ⟨o1.1, o1.2, o2.1, o2.2⟩, k _ _ _ _ _ q (st1.trans st2) itw_rng⟩⟩⟩

/-! ### targets -/
def LG (K : PySem.W.Frag) (g : Step1) : TG := fun v σ H Q => ∃ w σw G Qw, Rep K H w v ∧ Sl K H σw σ ∧ RH K G H ∧ g w σw G Qw ∧ ∀ σw' G' σ' H', Qw σw' G' → Stp K G H G' H' → Sl K H' σw' σ' → Q σ' H'
def LGs (K : PySem.W.Frag) (g : List W → Sw → GH → (Sw → GH → Prop) → Prop) : TGs := fun vs σ H Q => ∃ ws σw G Qw, Reps K H ws vs ∧ Sl K H σw σ ∧ RH K G H ∧ g ws σw G Qw ∧ ∀ σw' G' σ' H', Qw σw' G' → Stp K G H G' H' → Sl K H' σw' σ' → Q σ' H'
theorem sg_name {i : Nat} {x : Str} {pos : Pos} (hN : X.N.Nodup) (hi : X.N[i]? = some x) (hx : Loc X.env.scope x) (hf : X.fn x = true ∨ X.env.scope.names.lookup x = some .local) : PG X (.Name x pos) (LG X.K fun w σ G Q => Q (σ.set i (some w)) G) :=
  pgMono (pg_name hN hi hx hf) fun v σ H Q ⟨w, σw, G, Qw, r, sl, rh, h, k⟩ => k _ _ _ _ h (.refl rh) (sl.set i r)
theorem set_any (hu : X.A.units + 1 < cLine) : PSet X (fun o i v H Q => rSetL o i v H Q ∨ rSetD o i v H Q) := by
  intro pins s σ H o i v ov iv u Q I ro ri rv h
  rcases h with h | h
  · exact set_list pins s σ H o i v ov iv u Q I ro ri rv h
  · exact set_dict hu pins s σ H o i v ov iv u Q I ro ri rv h
theorem sg_sub {o i : Expr} {to ti : Sw → GH → QW → Prop} {pos : Pos} (hu : Room 0 X.A) (ho : PE X o (LE X.K to)) (hi : PE X i (LE X.K ti))
    (ha : ∀ v, assign (.Subscript o i pos) X.env v = (do
      let ov ← holding [v] (eval o X.env)
      let iv ← holding [v, ov] (eval i X.env)
      standAt pos
      holding [v, ov, iv] (setItem ov iv v)
      release [v, ov, iv] [])) : PG X (.Subscript o i pos) (LG X.K fun w σ G Q => to σ G fun x G1 => ti σ G1 fun y G2 => opSet x y w G2 fun G3 => Q σ G3) :=
  pgMono (pg_sub ho hi (set_any (dLine1 hu)) ha) fun v σ H Q ⟨w, σw, G, Qw, r, sl, rh, h, k⟩ => ⟨σw, G, _, sl, rh, h, fun x G1 vx H1 h1 st1 r1 => ⟨σw, G1, _, sl.stp rh st1, st1.rh, h1, fun y G2 vy H2 h2 st2 r2 => by
    have s12 := st1.trans st2
    unfold opSet at h2
    split at h2
    case h_2 => exact h2.elim
    cases r1
    rcases onG_lst h2 st2.rh with ⟨xs, vs, g, hv, rv, q⟩ | ⟨o, u, nl, g, hv, x, q⟩
    case inr =>
      refine noL nl x (fun kvs us e e2 rk => ?_) (fun _ _ _ e _ _ => by subst e; exact q.elim) (fun _ _ e => by subst e; exact q.elim)
      subst e e2
      obtain ⟨ky, ek, q⟩ := onS_of q
      have st3 := Stp.setO st2.rh g hv trivial (.dct (rep_put (k := ky) rk (r.stp rh s12)))
      exact .inr ⟨_, _, rfl, .inl ⟨us, ky, hv, keyOf_rep ek (.inl r2), by rw [← rk.len]; exact q.1, rfl⟩, k _ _ _ _ q.2 (s12.trans st3) (sl.stp rh (s12.trans st3))⟩
    obtain ⟨i, rfl, q⟩ := asInt_of q
    cases r2
    obtain ⟨j, e, q⟩ := onS_of q
    have st3 := Stp.setL st2.rh g hv (rv.set (w := w) (v := v) (r.stp rh s12) j)
    refine .inl ⟨_, vs, i, j, rfl, rfl, hv, ?_, k _ _ _ _ q (s12.trans st3) (sl.stp rh (s12.trans st3))⟩
    rw [← rv.length, ← e]
    cases i with
    | ofNat n =>
      show ixN xs.length (n : Int) = if n < xs.length then some n else none
      unfold ixN
      rw [if_pos (Int.natCast_nonneg n)]
      by_cases hn : n < xs.length
      · rw [if_pos hn, if_pos (Int.ofNat_lt.mpr hn)]; rfl
      · rw [if_neg hn, if_neg (fun z => hn (Int.ofNat_lt.mp z))]
    | negSucc n =>
      show ixN xs.length (Int.negSucc n) = if n < xs.length then some (xs.length - (n + 1)) else none
      unfold ixN
      have e0 : ¬ (0 : Int) ≤ Int.negSucc n := by have := Int.negSucc_lt_zero n; omega
      rw [if_neg e0]
      by_cases hn : n < xs.length
      · have e1 : -(xs.length : Int) ≤ Int.negSucc n := by rw [Int.negSucc_eq]; omega
        rw [if_pos hn, if_pos e1]
        congr 1
        rw [Int.negSucc_eq]; omega
      · have e1 : ¬ -(xs.length : Int) ≤ Int.negSucc n := by rw [Int.negSucc_eq]; omega
        rw [if_neg hn, if_neg e1]⟩⟩
theorem sgs_nil : PGs X [] (LGs X.K fun ws σ G Q => match ws with | [] => Q σ G | _ => False) :=
  ⟨fun pins s σ H vs us Q I r ⟨ws, σw, G, Qw, rs, sl, rh, h, k⟩ => pgs_nil.run pins s σ H vs us Q I r (by
    cases rs with
    | nil => exact ⟨rfl, k _ _ _ _ h (.refl rh) sl⟩
    | cons _ _ => exact h.elim)⟩
theorem pgsMono {es : List Expr} {t t' : TGs} (h : PGs X es t) (m : ∀ v σ H Q, t' v σ H Q → t v σ H Q) : PGs X es t' := ⟨fun pins s σ H v u Q I r q => h.run pins s σ H v u Q I r (m v σ H Q q)⟩
theorem sgs_cons {e : Expr} {es : List Expr} {t : Step1} {u : List W → Sw → GH → (Sw → GH → Prop) → Prop} (h1 : PG X e (LG X.K t)) (h2 : PGs X es (LGs X.K u)) (hs : (assignEach (e :: es) X.env).map (·.2) = assign e X.env :: (assignEach es X.env).map (·.2)) :
    PGs X (e :: es) (LGs X.K fun ws σ G Q => match ws with | w :: us => t w σ G fun σ1 G1 => u us σ1 G1 Q | [] => False) :=
  pgsMono (pgs_cons h1 h2 hs) fun vs σ H Q ⟨ws, σw, G, Qw, rs, sl, rh, h, k⟩ => by
    cases rs with
    | nil => exact h.elim
    | cons r rs => exact ⟨_, _, rfl, _, σw, G, _, r, sl, rh, h, fun σw1 G1 σ1 H1 q1 st1 sl1 => ⟨_, σw1, G1, _, rs.stp rh st1, sl1, st1.rh, q1, fun σw2 G2 σ2 H2 q2 st2 sl2 => k _ _ _ _ q2 (st1.trans st2) sl2⟩⟩
theorem sg_tup {es : List Expr} {k : Nat} {t : List W → Sw → GH → (Sw → GH → Prop) → Prop} {pos : Pos} (hc : X.calm = true) (h : PGs X es (LGs X.K t)) (hn : (assignEach es X.env).length = es.length) (hst : (assignEach es X.env).findIdx? (·.1) = none)
    : PG X (.Tuple es k pos) (LG X.K fun w σ G Q => asTup w fun ws => ws.length = es.length ∧ t ws σ G Q) :=
  pgMono (pg_tup hc h hn hst) fun v σ H Q ⟨w, σw, G, Qw, r, sl, rh, h, k⟩ => by
    obtain ⟨ws, rfl, h⟩ := asTup_of h
    cases r with | tup h1 r1 => exact ⟨_, _, rfl, h1, by rw [← r1.length]; exact h.1, _, σw, G, Qw, r1, sl, rh, h.2, k⟩
end
end PV
/-! PVH: loops, comprehensions, statements -/
namespace PV
open PySem PySem.Spec L2
open PyProof.Rows hiding St
section
variable {X : Cx}
theorem nox (xe : X.xe = fun _ _ => False) : PassesOwn (model X.prog X.w) X.A X.env X.xe := by rw [xe]; exact PassesOwn.never
theorem ss_for {tg iter : Expr} {body : List Stmt} {pos : Pos} {ti : Sw → GH → (List W → (GH → Prop) → GH → Prop) → Prop} {g : Step1} {tb : WEnds → Sw → GH → Prop} (xe : X.xe = fun _ _ => False) (hc : X.calm = true) (hi : PI X tg iter (LI X.K ti)) (hg : PG X tg (LG X.K g)) (hb : PSs X body (LS X.K tb))
    (hs : ∀ x, foldedSetIterable iter X.env x = pure x) : PS X (.For tg iter body [] pos) (LS X.K fun D σ G => ti σ G fun items still G1 => forW still g tb D items σ G1) :=
  psMono (ps_for (nox xe) hc hi hg hb hs) fun D σ H ⟨σw, G, Dw, sl, rh, h, ed⟩ => ⟨σw, G, _, sl, rh, h, fun items still G1 J H1 h1 st1 it => by
    refine ⟨fun i m σ' H' => m = items.length - i ∧ i ≤ items.length ∧ ∃ σw' G', Stp X.K G1 H1 G' H' ∧ Sl X.K H' σw' σ' ∧ forW still g tb Dw (items.drop i) σw' G', ⟨_, rfl, Nat.zero_le _, σw, G1, .refl st1.rh, sl.stp rh st1, h1⟩, ?_⟩
    rintro i m σ' H' ⟨rfl, hi, σw', G', st, sl', q⟩
    have ed' := ed.stp (st1.trans st)
    by_cases hlt : i < items.length
    · have e : items.drop i = items[i] :: items.drop (i + 1) := List.drop_eq_getElem_cons hlt
      rw [e, forW_cons] at q
      obtain ⟨sg, q⟩ := q
      obtain ⟨go, yl⟩ := it.go i G' H' st sg hlt
      refine .inr ⟨go, fun σ2 H2 => ∃ σw2 G2, Stp X.K G1 H1 G2 H2 ∧ Sl X.K H2 σw2 σ2 ∧ forW still g tb Dw (items.drop (i + 1)) σw2 G2, fun σ2 H2 ⟨σw2, G2, st2, sl2, q2⟩ => ⟨items.length - (i + 1), by omega, rfl, hlt, σw2, G2, st2, sl2, q2⟩, fun x H2 y => ?_⟩
      obtain ⟨st2, w, ew, rw_⟩ := yl x H2 y
      have ew2 : w = items[i] := by
        rw [List.getElem?_eq_getElem hlt] at ew
        exact (Option.some.inj ew).symm
      subst ew2
      refine ⟨_, σw', G', _, rw_, sl'.stp st.rh st2, st2.rh, q, fun σw3 G3 σ3 H3 q3 st3 sl3 => ?_⟩
      have s13 := (st.trans st2).trans st3
      have ed3 := ed.stp (st1.trans s13)
      exact ⟨σw3, G3, _, sl3, st3.rh, q3, ⟨fun σw4 G4 σ4 H4 q4 st4 sl4 => ⟨σw4, G4, s13.trans st4, sl4, q4⟩, ed3.rt, ed3.nx, fun σw4 G4 σ4 H4 q4 st4 sl4 => ⟨σw4, G4, s13.trans st4, sl4, q4⟩⟩⟩
    · have e : items.drop i = [] := List.drop_eq_nil_of_le (by omega)
      rw [e, forW_nil] at q
      exact .inl ⟨it.stop i G' H' st q.1 (by omega), ed'.nx _ _ _ _ q.2 (.refl st.rh) sl'⟩⟩
/-! ### over a dict's keys -/
theorem walkD_of {K : PySem.W.Frag} {x : W} {v : V} {G : GH} {H : Hp} {P : Addr → List (Key × W) → Prop} (h : walkD x G P) (rh : RH K G H) (r : Rep K H x v) : ∃ a ks us o, v = .ref a ∧ G a = some (.fdct ks) ∧ H a = some (.frz o (.dK us)) ∧ RepKV K H ks us ∧ P a ks := by
  unfold walkD at h
  split at h
  · cases r
    obtain ⟨o, e, h⟩ := h
    cases o <;> first | exact h.elim | skip
    obtain ⟨o, us, h1, rk⟩ := (rh _ _ e).fdct_
    exact ⟨_, _, us, o, rfl, e, h1, rk, h⟩
  · exact h.elim
theorem RepKV.at_ {K : PySem.W.Frag} {H : Hp} {κ : Type} {ks : List (κ × W)} {us : List (κ × V)} (r : RepKV K H ks us) : ∀ {i : Nat} {k : κ} {v : V}, us[i]? = some (k, v) → ∃ w, ks[i]? = some (k, w) ∧ Rep K H w v := by
  induction r with
  | nil => intro i k v e; simp at e
  | @cons p q ps qs h t ih =>
    intro i k v e
    cases i with
    | zero =>
      simp at e
      subst e
      exact ⟨p.2, by rw [← (show p.1 = k from h.1)]; rfl, h.2⟩
    | succ i =>
      simp only [List.getElem?_cons_succ] at e ⊢
      exact ih e
theorem keyRep {K : PySem.W.Frag} {H : Hp} (k : Key) : Rep K H (keyW k) (kV k) := by
  cases k
  · exact .int _
  · exact .str _
theorem itw_keys {K : PySem.W.Frag} {d : Addr} {o : Obj} {ks : List (Key × W)} {us : List (Key × V)} {still : GH → Prop} {G0 : GH} {H0 : Hp} (h0 : H0 d = some (.frz o (.dK us))) (rk : RepKV K H0 ks us) : ItW K (Itk d o us) (ks.map fun kv => keyW kv.1) still G0 H0 := by
  refine ⟨fun i G H st g hi => ?_, fun i G H st g hi => ?_⟩
  · rw [List.length_map, rk.len] at hi
    refine ⟨⟨st.frz _ _ _ h0, hi⟩, fun x H' y => ?_⟩
    obtain ⟨e, k, v, y, ex⟩ := y
    subst e ex
    obtain ⟨w, e1, _⟩ := rk.at_ y
    refine ⟨.refl st.rh, keyW k, ?_, keyRep k⟩
    rw [List.getElem?_map, e1]
    rfl
  · rw [List.length_map, rk.len] at hi
    exact ⟨st.frz _ _ _ h0, hi⟩
theorem si_keys {tg e : Expr} {t : Sw → GH → QW → Prop} (he : PE X e (LE X.K t)) : PI X tg e (LI X.K fun σ G R => t σ G fun x G1 => walkD x G1 fun b ks => R (ks.map fun kv => keyW kv.1) (fun G => G b = some (.fdct ks)) G1) :=
  piMono (pi_keys he) fun σ H R ⟨σw, G, Rw, sl, rh, h, k⟩ => ⟨σw, G, _, sl, rh, h, fun x G1 v H1 h1 st1 r1 => by
    obtain ⟨a, ks, us, o, rfl, g1, e1, rk, q⟩ := walkD_of h1 st1.rh r1
    exact ⟨a, o, rfl, .inl ⟨us, e1, k _ _ _ _ _ q st1 (itw_keys e1 rk)⟩⟩⟩
theorem lock_ed {K : PySem.W.Frag} {G : GH} {H : Hp} {Dw : WEnds} {D : Ends} {a : Addr} {kvs : List (Key × W)} {us : List (Key × V)} {od : Obj} (ed : EdOk K G H Dw D) (rh : RH K G H) (g : G a = some (.dct kvs)) (h : H a = some (.dK us)) :
    EdOk K (gup G a (.fdct kvs)) (upd H a (.frz od (.dK us))) (lockE a kvs Dw) ⟨fun σ' H' => H' a = some (.frz od (.dK us)) ∧ D.nx σ' (upd H' a (.dK us)), fun v H' => H' a = some (.frz od (.dK us)) ∧ D.rt v (upd H' a (.dK us)), fun σ' H' => H' a = some (.frz od (.dK us)) ∧ D.bk σ' (upd H' a (.dK us)), fun σ' H' => H' a = some (.frz od (.dK us)) ∧ D.ct σ' (upd H' a (.dK us))⟩ := by
  refine ⟨fun σw G' σ H' q st sl => ?_, fun w G' v H' q st r => ?_, fun σw G' σ H' q st sl => ?_, fun σw G' σ H' q st sl => ?_⟩
  · obtain ⟨e, st2⟩ := Stp.unlock rh g h st q.1
    exact ⟨e, ed.nx _ _ _ _ q.2 st2 (sl.kept (Kept.unlock e))⟩
  · obtain ⟨e, st2⟩ := Stp.unlock rh g h st q.1
    exact ⟨e, ed.rt _ _ _ _ q.2 st2 (r.kept (Kept.unlock e))⟩
  · obtain ⟨e, st2⟩ := Stp.unlock rh g h st q.1
    exact ⟨e, ed.bk _ _ _ _ q.2 st2 (sl.kept (Kept.unlock e))⟩
  · obtain ⟨e, st2⟩ := Stp.unlock rh g h st q.1
    exact ⟨e, ed.ct _ _ _ _ q.2 st2 (sl.kept (Kept.unlock e))⟩
theorem ss_forD {tg e : Expr} {body : List Stmt} {pos : Pos} {t : Sw → GH → QW → Prop} {g : Step1} {tb : WEnds → Sw → GH → Prop} (xe : X.xe = fun _ _ => False) (hc : X.calm = true) (he : PE X e (LE X.K t)) (hg : PG X tg (LG X.K g)) (hb : PSs X body (LS X.K tb))
    (hs : ∀ x, foldedSetIterable e X.env x = pure x) : PS X (.For tg e body [] pos) (LS X.K fun D σ G => ∃ a kvs, G a = some (.dct kvs) ∧ t σ (gup G a (.fdct kvs)) fun x G1 => walkD x G1 fun b ks => forW (fun G => G b = some (.fdct ks)) g tb (lockE a kvs D) (ks.map fun kv => keyW kv.1) σ G1) :=
  psMono (ps_lock (ss_for xe hc (si_keys he) hg hb hs)) fun D σ H ⟨σw, G, Dw, sl, rh, ⟨a, kvs, ga, h⟩, ed⟩ => by
    obtain ⟨us, ha, rk⟩ := (rh a _ ga).dct_
    refine ⟨a, .dK us, ha, trivial, fun od => ?_⟩
    have st0 := Stp.lock (od := od) rh ga ha
    exact ⟨σw, _, _, sl.stp rh st0, st0.rh, h, lock_ed ed rh ga ha⟩
theorem ss_while {c : Expr} {body : List Stmt} {pos : Pos} {tc : Sw → GH → (Bool → GH → Prop) → Prop} {tb : WEnds → Sw → GH → Prop} (xe : X.xe = fun _ _ => False) (hc : PT X c (LT X.K tc)) (hb : PSs X body (LS X.K tb)) :
    PS X (.While c body [] pos) (LS X.K fun D σ G => ∃ n, whlW tc tb D n σ G) :=
  psMono (ps_while (nox xe) hc hb) fun D σ H ⟨σw, G, Dw, sl, rh, ⟨n, h⟩, ed⟩ => by
    refine ⟨fun m σ' H' => ∃ σw' G', Stp X.K G H G' H' ∧ Sl X.K H' σw' σ' ∧ whlW tc tb Dw m σw' G', ⟨n, σw, G, .refl rh, sl, h⟩, ?_⟩
    rintro m σ' H' ⟨σw', G', st, sl', q⟩
    cases m with
    | zero => rw [whlW_zero] at q; exact q.elim
    | succ m =>
      rw [whlW_succ] at q
      refine ⟨σw', G', _, sl', st.rh, q, fun b G2 H2 q2 st2 => ?_⟩
      have s2 := st.trans st2
      have ed2 := ed.stp s2
      cases b with
      | true =>
        refine iteT ?_
        refine ⟨fun σ3 H3 => ∃ σw3 G3, Stp X.K G H G3 H3 ∧ Sl X.K H3 σw3 σ3 ∧ whlW tc tb Dw m σw3 G3, fun σ3 H3 q3 => ⟨m, Nat.lt_succ_self m, q3⟩, ?_⟩
        exact ⟨σw', G2, _, sl'.stp st.rh st2, st2.rh, q2, ⟨fun σw4 G4 σ4 H4 q4 st4 sl4 => ⟨σw4, G4, s2.trans st4, sl4, q4⟩, ed2.rt, ed2.nx, fun σw4 G4 σ4 H4 q4 st4 sl4 => ⟨σw4, G4, s2.trans st4, sl4, q4⟩⟩⟩
      | false =>
        refine iteF ?_
        exact ed2.nx _ _ _ _ q2 (.refl s2.rh) (sl'.stp st.rh st2)

/-! ### comprehensions -/
def LGc (K : PySem.W.Frag) (vs : List Nat) (g : Step1) : TG := fun v σ H Q => ∃ w σw G Qw, Rep K H w v ∧ Sl K H σw σ ∧ RH K G H ∧ g w σw G Qw ∧ ∀ σw' G' σ' H', Qw σw' G' → Stp K G H G' H' → Sl K H' σw' σ' → L2.wipe σ' vs = L2.wipe σ vs → Q σ' H'
def LGcs (K : PySem.W.Frag) (vs : List Nat) (g : List W → Sw → GH → (Sw → GH → Prop) → Prop) : TGs := fun xs σ H Q => ∃ ws σw G Qw, Reps K H ws xs ∧ Sl K H σw σ ∧ RH K G H ∧ g ws σw G Qw ∧ ∀ σw' G' σ' H', Qw σw' G' → Stp K G H G' H' → Sl K H' σw' σ' → L2.wipe σ' vs = L2.wipe σ vs → Q σ' H'
theorem set_set_none {σ : L2.St} {i : Nat} {o p : Option V} : (σ.set i o).set i p = σ.set i p := by rw [List.set_set]
theorem wipe_set_out {i : Nat} {o : Option V} : ∀ {vs : List Nat} {σ : L2.St}, i ∉ vs → L2.wipe (σ.set i o) vs = (L2.wipe σ vs).set i o
  | [], _, _ => rfl
  | v :: vs, σ, h => by
    have hv : i ≠ v := fun e => h (by rw [e]; exact List.mem_cons_self)
    have ih := wipe_set_out (i := i) (o := o) (vs := vs) (σ := σ) (fun m => h (List.mem_cons_of_mem _ m))
    show (L2.wipe (σ.set i o) vs).set v none = ((L2.wipe σ vs).set v none).set i o
    rw [ih]
    exact (List.set_comm _ _ hv)
theorem wipe_set {i : Nat} {o : Option V} : ∀ {vs : List Nat} {σ : L2.St}, i ∈ vs → L2.wipe (σ.set i o) vs = L2.wipe σ vs
  | [], _, h => by cases h
  | v :: vs, σ, h => by
    show (L2.wipe (σ.set i o) vs).set v none = (L2.wipe σ vs).set v none
    by_cases hi : i ∈ vs
    · rw [wipe_set hi]
    · have e : i = v := by
        rcases List.mem_cons.mp h with e | e
        · exact e
        · exact absurd e hi
      subst e
      rw [wipe_set_out hi, List.set_set]
theorem wipe_wipe : ∀ {vs : List Nat} {us : List Nat} {σ : L2.St}, (∀ v ∈ vs, v ∈ us) → L2.wipe (L2.wipe σ vs) us = L2.wipe σ us
  | [], _, _, _ => rfl
  | v :: vs, us, σ, h => by
    show L2.wipe ((L2.wipe σ vs).set v none) us = _
    rw [wipe_set (h v List.mem_cons_self), wipe_wipe fun x hx => h x (List.mem_cons_of_mem _ hx)]
theorem sgc_name {i : Nat} {x : Str} {pos : Pos} {vs : List Nat} (hN : X.N.Nodup) (hi : X.N[i]? = some x) (hx : Loc X.env.scope x) (hf : X.fn x = true ∨ X.env.scope.names.lookup x = some .local) (hm : i ∈ vs) : PG X (.Name x pos) (LGc X.K vs fun w σ G Q => Q (σ.set i (some w)) G) :=
  pgMono (pg_name hN hi hx hf) fun v σ H Q ⟨w, σw, G, Qw, r, sl, rh, h, k⟩ => k _ _ _ _ h (.refl rh) (sl.set i r) (wipe_set hm)
theorem sgcs_nil {vs : List Nat} : PGs X [] (LGcs X.K vs fun ws σ G Q => match ws with | [] => Q σ G | _ => False) :=
  ⟨fun pins s σ H xs us Q I r ⟨ws, σw, G, Qw, rs, sl, rh, h, k⟩ => pgs_nil.run pins s σ H xs us Q I r (by
    cases rs with
    | nil => exact ⟨rfl, k _ _ _ _ h (.refl rh) sl rfl⟩
    | cons _ _ => exact h.elim)⟩
theorem sgcs_cons {e : Expr} {es : List Expr} {vs : List Nat} {t : Step1} {u : List W → Sw → GH → (Sw → GH → Prop) → Prop} (h1 : PG X e (LGc X.K vs t)) (h2 : PGs X es (LGcs X.K vs u)) (hs : (assignEach (e :: es) X.env).map (·.2) = assign e X.env :: (assignEach es X.env).map (·.2)) :
    PGs X (e :: es) (LGcs X.K vs fun ws σ G Q => match ws with | w :: us => t w σ G fun σ1 G1 => u us σ1 G1 Q | [] => False) :=
  pgsMono (pgs_cons h1 h2 hs) fun xs σ H Q ⟨ws, σw, G, Qw, rs, sl, rh, h, k⟩ => by
    cases rs with
    | nil => exact h.elim
    | cons r rs => exact ⟨_, _, rfl, _, σw, G, _, r, sl, rh, h, fun σw1 G1 σ1 H1 q1 st1 sl1 e1 => ⟨_, σw1, G1, _, rs.stp rh st1, sl1, st1.rh, q1, fun σw2 G2 σ2 H2 q2 st2 sl2 e2 => k _ _ _ _ q2 (st1.trans st2) sl2 (e2.trans e1)⟩⟩
theorem sgc_tup {es : List Expr} {k : Nat} {vs : List Nat} {t : List W → Sw → GH → (Sw → GH → Prop) → Prop} {pos : Pos} (hc : X.calm = true) (h : PGs X es (LGcs X.K vs t)) (hn : (assignEach es X.env).length = es.length) (hst : (assignEach es X.env).findIdx? (·.1) = none)
    : PG X (.Tuple es k pos) (LGc X.K vs fun w σ G Q => asTup w fun ws => ws.length = es.length ∧ t ws σ G Q) :=
  pgMono (pg_tup hc h hn hst) fun v σ H Q ⟨w, σw, G, Qw, r, sl, rh, h, k⟩ => by
    obtain ⟨ws, rfl, h⟩ := asTup_of h
    cases r with | tup h1 r1 => exact ⟨_, _, rfl, h1, by rw [← r1.length]; exact h.1, _, σw, G, Qw, r1, sl, rh, h.2, k⟩
def LTs (K : PySem.W.Frag) (t : Sw → GH → (Bool → GH → Prop) → Prop) : TT := LT K t
theorem ptsMono {es : List Expr} {t t' : TT} (h : PTs X es t) (m : ∀ σ H Q, t' σ H Q → t σ H Q) : PTs X es t' := ⟨fun pins s σ H Q I q => h.run pins s σ H Q I (m σ H Q q)⟩
theorem sts_nil : PTs X [] (LT X.K fun _ G R => R true G) := ptsMono pts_nil fun σ H Q ⟨σw, G, Qw, sl, rh, h, k⟩ => k _ _ _ h (.refl rh)
theorem sts_one {c : Expr} {t : Sw → GH → (Bool → GH → Prop) → Prop} (h : PT X c (LT X.K t)) : PTs X [c] (LT X.K t) := pts_one h
/-- the fresh list grows -/
theorem Stp.hide {K : PySem.W.Frag} {G G' : GH} {H H' : Hp} {D : Addr} {xs ys : List V} (s : Stp K G H G' H') (hn : H D = none) (g : G' D = none) (hd : H' D = some (.lst xs)) : Stp K G H G' (upd H' D (.lst ys)) := by
  refine ⟨fun a o h e => ?_, fun a o e => ?_, fun a o u e => frz_mov hd trivial a o u (s.frz a o u e)⟩
  · obtain ⟨h1, g1⟩ := s.hid a o h e
    exact ⟨by rw [upd_ne (ne_of_none h hn)]; exact h1, g1⟩
  · have n : a ≠ D := fun z => by subst z; rw [g] at e; cases e
    exact (s.rh a o e).kept (Kept.lst hd) fun u q => by rw [upd_ne n]; exact q
theorem comp_red {K : PySem.W.Frag} {ti : Sw → GH → (List W → (GH → Prop) → GH → Prop) → Prop} {g : Step1} {tt : Sw → GH → (Bool → GH → Prop) → Prop} {te : Sw → GH → QW → Prop} {vs : List Nat} {σ : L2.St} {H : Hp} {Q : VK}
    (h : LL K (fun σ G Q => ti σ G fun items still G1 => compW still g tt te Q (wipeW σ vs) items [] G1) σ H Q) : tLc (LI K ti) (LGc K vs g) (LT K tt) (LE K te) vs σ H Q := by
  obtain ⟨σw, G, Qw, sl, rh, h, k⟩ := h
  refine ⟨σw, G, _, sl, rh, h, fun items still G1 J H1 h1 st1 it D hD => ?_⟩
  have gD : G1 D = none := st1.rh.free hD
  refine ⟨fun i m H' => m = items.length - i ∧ i ≤ items.length ∧ ∃ G' acc accv, Stp K G1 H1 G' H' ∧ H' D = some (.lst accv) ∧ G' D = none ∧ Reps K H' acc accv ∧ compW still g tt te Qw (wipeW σw vs) (items.drop i) acc G',
    ⟨_, rfl, Nat.zero_le _, G1, [], [], Stp.newH st1.rh hD, upd_same, gD, .nil, h1⟩, ?_⟩
  rintro i m H' ⟨rfl, hi, G', acc, accv, st, hd, gd, ra, q⟩
  by_cases hlt : i < items.length
  · have e : items.drop i = items[i] :: items.drop (i + 1) := List.drop_eq_getElem_cons hlt
    rw [e, compW_cons] at q
    obtain ⟨sg, q⟩ := q
    obtain ⟨go, yl⟩ := it.go i G' H' st sg hlt
    refine .inr ⟨go, fun H2 => ∃ G2 acc accv, Stp K G1 H1 G2 H2 ∧ H2 D = some (.lst accv) ∧ G2 D = none ∧ Reps K H2 acc accv ∧ compW still g tt te Qw (wipeW σw vs) (items.drop (i + 1)) acc G2, fun H2 q2 => ⟨items.length - (i + 1), by omega, rfl, hlt, q2⟩, fun x H2 y => ?_⟩
    obtain ⟨st2, w, ew, rw_⟩ := yl x H2 y
    have ew2 : w = items[i] := by
      rw [List.getElem?_eq_getElem hlt] at ew
      exact (Option.some.inj ew).symm
    subst ew2
    have slw := ((sl.stp rh (st1.trans (st.trans st2))).wipe vs)
    refine ⟨_, wipeW σw vs, G', _, rw_, slw, st2.rh, q, fun σw3 G3 σ3 H3 q3 st3 sl3 e3 => ?_⟩
    rw [wipe_wipe fun v hv => hv] at e3
    refine ⟨e3, σw3, G3, _, sl3, st3.rh, q3, fun b G4 H4 q4 st4 => ?_⟩
    have s4 := (st2.trans st3).trans st4
    cases b with
    | true =>
      refine iteT ?_
      refine ⟨σw3, G4, _, sl3.stp st3.rh st4, st4.rh, q4, fun w5 G5 v5 H5 q5 st5 r5 => ?_⟩
      have s5 := s4.trans st5
      obtain ⟨hd5, gd5⟩ := s5.hid D _ hd gd
      refine ⟨accv, hd5, by rw [← ra.length]; exact q5.1, G5, _, accv ++ [v5], (st.trans s5).hide hD gd5 hd5, upd_same, gd5, ?_, q5.2⟩
      exact ((ra.stp st.rh s5).append (.cons r5 .nil)).kept (Kept.lst hd5)
    | false =>
      refine iteF ?_
      obtain ⟨hd4, gd4⟩ := s4.hid D _ hd gd
      exact ⟨G4, acc, accv, st.trans s4, hd4, gd4, ra.stp st.rh s4, q4⟩
  · have e : items.drop i = [] := List.drop_eq_nil_of_le (by omega)
    rw [e, compW_nil] at q
    exact .inl ⟨it.stop i G' H' st q.1 (by omega), k _ _ _ _ _ q.2 (st1.trans st) (st1.fresh hD) hd gd ra⟩
theorem sl_comp {elt tg iter : Expr} {ifs : List Expr} {scope : Scope} {own : List (Str × Nat)} {pos : Pos} {ti : Sw → GH → (List W → (GH → Prop) → GH → Prop) → Prop} {g : Step1} {tt : Sw → GH → (Bool → GH → Prop) → Prop} {te : Sw → GH → QW → Prop} (hc : X.calm = true) (hN : X.N.Nodup) (hi : PI X tg iter (LI X.K ti)) (ok : BlkOk X.N X.env.scope scope own)
    (hg : ∀ (s : Shared) (H : Hp) (C : Addr) (cl : List (Str × Addr)) (fp : List Addr), PG (X.blk s H scope (compEnvC scope cl C X.env) fp) tg (LGc X.K (own.map (·.2)) g)) (ht : ∀ (s : Shared) (H : Hp) (C : Addr) (cl : List (Str × Addr)) (fp : List Addr), PTs (X.blk s H scope (compEnvC scope cl C X.env) fp) ifs (LT X.K tt))
    (he : ∀ (s : Shared) (H : Hp) (C : Addr) (cl : List (Str × Addr)) (fp : List Addr), PE (X.blk s H scope (compEnvC scope cl C X.env) fp) elt (LE X.K te)) (hs : ∀ x, foldedSetIterable iter X.env x = pure x) :
    PE X (.ListComp elt [⟨tg, iter, ifs, 0⟩] scope pos) (LL X.K fun σ G Q => ti σ G fun items still G1 => compW still g tt te Q (wipeW σ (own.map (·.2))) items [] G1) :=
  peMono (pe_lc hc hN hi ok hg ht he hs) fun σ H Q h => comp_red h
theorem ss_setLc {i : Nat} {y : Str} {py spos : Pos} {elt tg iter : Expr} {ifs : List Expr} {scope : Scope} {own : List (Str × Nat)} {pos : Pos} {ti : Sw → GH → (List W → (GH → Prop) → GH → Prop) → Prop} {g : Step1} {tt : Sw → GH → (Bool → GH → Prop) → Prop} {te : Sw → GH → QW → Prop} (hc : X.calm = true) (hN : X.N.Nodup) (hy : X.N[i]? = some y) (hyl : X.env.scope.names.lookup y = some .local)
    (hsw : swapsWith (.ListComp elt [⟨tg, iter, ifs, 0⟩] scope pos) (some (.Name y py)) spos.line X.env = pure true) (hi : PI X tg iter (LI X.K ti)) (ok : BlkOk X.N X.env.scope scope own)
    (hg : ∀ (s : Shared) (H : Hp) (C : Addr) (cl : List (Str × Addr)) (fp : List Addr), PG (X.blk s H scope (compEnvC scope cl C X.env) fp) tg (LGc X.K (own.map (·.2)) g)) (ht : ∀ (s : Shared) (H : Hp) (C : Addr) (cl : List (Str × Addr)) (fp : List Addr), PTs (X.blk s H scope (compEnvC scope cl C X.env) fp) ifs (LT X.K tt))
    (he : ∀ (s : Shared) (H : Hp) (C : Addr) (cl : List (Str × Addr)) (fp : List Addr), PE (X.blk s H scope (compEnvC scope cl C X.env) fp) elt (LE X.K te)) (hs : ∀ x, foldedSetIterable iter X.env x = pure x) :
    PS X (.Assign [.Name y py] (.ListComp elt [⟨tg, iter, ifs, 0⟩] scope pos) spos) (LS X.K fun D σ G => ti σ G fun items still G1 => compW still g tt te (fun ws G2 => newo G2 (.lst ws) fun w G3 => D.nx (σ.set i (some w)) G3) (wipeW σ (own.map (·.2))) items [] G1) :=
  psMono (ps_setLc hc hN hy hyl hsw hi ok hg ht he hs) fun D σ H ⟨σw, G, Dw, sl, rh, h, ed⟩ => comp_red ⟨σw, G, fun ws G2 => newo G2 (.lst ws) fun w G3 => Dw.nx (σw.set i (some w)) G3, sl, rh, h, fun ws G' vs H' D hq st hn hd gn r =>
    have st2 := st.show_ hn hd r
    ed.nx _ _ _ _ (hq D gn) st2 ((sl.stp rh st2).set i (.ref D))⟩

/-! ### small statements -/
theorem sss_nil : PSs X [] (LS X.K fun D σ G => D.nx σ G) := pssMono pss_nil fun D σ H ⟨σw, G, Dw, sl, rh, h, ed⟩ => ed.nx _ _ _ _ h (.refl rh) sl
theorem sss_cons {st : Stmt} {rest : List Stmt} {t u : WEnds → Sw → GH → Prop} (h1 : PS X st (LS X.K t)) (h2 : PSs X rest (LS X.K u)) : PSs X (st :: rest) (LS X.K fun D σ G => t { D with nx := u D } σ G) :=
  pssMono (pss_cons h1 h2) fun D σ H ⟨σw, G, Dw, sl, rh, h, ed⟩ => ⟨σw, G, _, sl, rh, h, ⟨fun σw1 G1 σ1 H1 q1 st1 sl1 => ⟨σw1, G1, Dw, sl1, st1.rh, q1, ed.stp st1⟩, ed.rt, ed.bk, ed.ct⟩⟩
theorem ss_expr {e : Expr} {t : Sw → GH → QW → Prop} {pos : Pos} (he : PE X e (LE X.K t)) (hs : swapsWith e none pos.line X.env = pure false) : PS X (.Expr e pos) (LS X.K fun D σ G => t σ G fun _ G1 => D.nx σ G1) :=
  psMono (ps_expr he hs) fun D σ H ⟨σw, G, Dw, sl, rh, h, ed⟩ => ⟨σw, G, _, sl, rh, h, fun w G1 v H1 q st r => ed.nx _ _ _ _ q st (sl.stp rh st)⟩
theorem ss_doc {x : Str} {j : Nat} {pos pos' : Pos} : PS X (.Expr (.Constant (.str x) j pos) pos') (LS X.K fun D σ G => D.nx σ G) := psMono ps_doc fun D σ H ⟨σw, G, Dw, sl, rh, h, ed⟩ => ed.nx _ _ _ _ h (.refl rh) sl
theorem ss_asg {tg e : Expr} {t : Sw → GH → QW → Prop} {g : Step1} {pos : Pos} (he : PE X e (LE X.K t)) (hg : PG X tg (LG X.K g)) (hs : swapsWithSole [tg] e pos.line X.env = pure false) (hw : swappedStores [tg] e X.env = pure none)
    (h1 : (assignEach [tg] X.env).map (·.2) = [assign tg X.env]) : PS X (.Assign [tg] e pos) (LS X.K fun D σ G => t σ G fun w G1 => g w σ G1 D.nx) :=
  psMono (ps_asg he hg hs hw h1) fun D σ H ⟨σw, G, Dw, sl, rh, h, ed⟩ => ⟨σw, G, _, sl, rh, h, fun w G1 v H1 q st r => ⟨w, σw, G1, _, r, sl.stp rh st, st.rh, q, fun σw2 G2 σ2 H2 q2 st2 sl2 => ed.nx _ _ _ _ q2 (st.trans st2) sl2⟩⟩
theorem ss_aug {i : Nat} {x : Str} {e : Expr} {op : Operator} {r : R2} {opw : W → W → GH → QW → Prop} {t : Sw → GH → QW → Prop} {px pos : Pos} (hN : X.N.Nodup) (hi : X.N[i]? = some x) (hx : Loc X.env.scope x) (he : PE X e (LE X.K t)) (ho : PIp X op r) (ok : OkR X.K opw r) (hf : X.fn x = true ∨ X.env.scope.names.lookup x = some .local) :
    PS X (.AugAssign (.Name x px) op e pos) (LS X.K fun D σ G => getv σ i fun w => t σ G fun y G1 => opw w y G1 fun z G2 => D.nx (σ.set i (some z)) G2) :=
  psMono (ps_aug hN hi hx he ho hf) fun D σ H ⟨σw, G, Dw, sl, rh, h, ed⟩ => by
    have h : getv σw i fun w => t σw G fun y G1 => opw w y G1 fun z G2 => Dw.nx (σw.set i (some z)) G2 := h
    unfold getv at h
    split at h
    · rename_i w e
      obtain ⟨v, e2, rv⟩ := sl.at_ i w e
      exact ⟨v, e2, σw, G, _, sl, rh, h, fun y G1 vy H1 q1 st1 r1 => ok _ _ G1 _ _ _ H1 _ q1 st1.rh (rv.stp rh st1) r1 fun z G2 vz H2 q2 st2 r2 => ed.nx _ _ _ _ q2 (st1.trans st2) ((sl.stp rh (st1.trans st2)).set i r2)⟩
    · exact h.elim
theorem ss_ret {e : Expr} {t : Sw → GH → QW → Prop} {pos : Pos} (he : PE X e (LE X.K t)) : PS X (.Return (some e) pos) (LS X.K fun D σ G => t σ G D.rt) :=
  psMono (ps_ret he) fun D σ H ⟨σw, G, Dw, sl, rh, h, ed⟩ => ⟨σw, G, _, sl, rh, h, ed.rt⟩
theorem ss_retN {pos : Pos} : PS X (.Return none pos) (LS X.K fun D _ G => D.rt .non G) := psMono ps_retN fun D σ H ⟨σw, G, Dw, sl, rh, h, ed⟩ => ed.rt _ _ _ _ h (.refl rh) .non
theorem ss_if {c : Expr} {a b : List Stmt} {tc : Sw → GH → (Bool → GH → Prop) → Prop} {ta tb : WEnds → Sw → GH → Prop} {pos : Pos} (hc : PT X c (LT X.K tc)) (ha : PSs X a (LS X.K ta)) (hb : PSs X b (LS X.K tb)) :
    PS X (.If c a b pos) (LS X.K fun D σ G => tc σ G fun k G1 => brn k (ta D σ G1) (tb D σ G1)) :=
  psMono (ps_if hc ha hb) fun D σ H ⟨σw, G, Dw, sl, rh, h, ed⟩ => ⟨σw, G, _, sl, rh, h, fun c G1 H1 q st => by
    cases c with
    | true => refine iteT ?_; exact ⟨σw, G1, Dw, sl.stp rh st, st.rh, q, ed.stp st⟩
    | false => refine iteF ?_; exact ⟨σw, G1, Dw, sl.stp rh st, st.rh, q, ed.stp st⟩⟩
theorem ss_pass {pos : Pos} : PS X (.Pass pos) (LS X.K fun D σ G => D.nx σ G) := psMono ps_pass fun D σ H ⟨σw, G, Dw, sl, rh, h, ed⟩ => ed.nx _ _ _ _ h (.refl rh) sl
theorem ss_break {pos : Pos} : PS X (.Break pos) (LS X.K fun D σ G => D.bk σ G) := psMono ps_break fun D σ H ⟨σw, G, Dw, sl, rh, h, ed⟩ => ed.bk _ _ _ _ h (.refl rh) sl
theorem ss_cont {pos : Pos} : PS X (.Continue pos) (LS X.K fun D σ G => D.ct σ G) := psMono ps_continue fun D σ H ⟨σw, G, Dw, sl, rh, h, ed⟩ => ed.ct _ _ _ _ h (.refl rh) sl
theorem ss_never {st : Stmt} : PS X st (LS X.K fun _ _ _ => False) := psMono ps_never fun D σ H ⟨_, _, _, _, _, h, _⟩ => h
end
end PV
/-! PVI: the check of a text against its form, and what it gives -/
namespace PV
open PySem PySem.Spec L2
open PyProof.Rows hiding St
/-! ### what is known of the module -/
structure Tab where
  fs : Nat → Option FR
  gl : List (Str × W)
  bl : List Str
structure SigOk (T : Tab) (rec : Rec) (k : Nat) (P : Program) (w : World) (K : PySem.W.Frag) (mg : Str → Option Value) (base : Heap) : Prop where
  calls : ∀ f r, T.fs f = some r → ∃ (a : Addr) (fd : FuncData) (ps : List Str), mg r.name = some (.ref a) ∧ PySem.W.keepIn K (.ref a) = true ∧ Binds K fd ps [] ∧ FnOk P w K mg base CX0 k a fd ps (spW K r.np (rec f))
  lens : ∀ f r ws G Q E, T.fs f = some r → rec f ws G Q E → ws.length = r.np
  globs : ∀ x w, T.gl.lookup x = some w → ∃ (u : Value) (v : V), mg x = some u ∧ RelV v u ∧ ∀ H, Rep K H w v
  blts : ∀ x ∈ T.bl, mg x = none
structure Good (T : Tab) (rec : Rec) (N : List Str) (sc : List (Str × NameKind)) (df : Bool) (X : Cx) : Prop where
  n : X.N = N
  nd : N.Nodup
  kind : X.env.scope.kind = .function
  loc : ∀ x, sc.lookup x = some .local → X.env.scope.names.lookup x = some .local
  cap : ∀ x, sc.lookup x = some .cell ∨ sc.lookup x = some .free → X.env.scope.names.lookup x = some .cell ∨ X.env.scope.names.lookup x = some .free
  cst : df = true → ∀ x, sc.lookup x = some .cell → X.env.scope.names.lookup x = some .cell ∧ X.fn x = true
  gl : ∀ x, sc.lookup x = some .globalImplicit → Gl X x
  calm : X.calm = true
  sig : ∃ k, Room k X.A ∧ SigOk T rec k X.prog X.w X.K X.mg X.base
  xe : X.xe = fun _ _ => False
/-! ### small checks -/
def okNm (x : Str) : Bool := !(x == ("__debug__" : Str)) && !(x == ("__classdict__" : Str))
def visK (sc : List (Str × NameKind)) (x : Str) : Bool := match sc.lookup x with | some .local => true | some .cell => true | some .free => true | _ => false
def stoK (df : Bool) (sc : List (Str × NameKind)) (x : Str) : Bool := match sc.lookup x with | some .local => true | some .cell => df | _ => false
def locK (sc : List (Str × NameKind)) (x : Str) : Bool := match sc.lookup x with | some .local => true | _ => false
def glK (sc : List (Str × NameKind)) (x : Str) : Bool := match sc.lookup x with | some .globalImplicit => true | _ => false
def atN (N : List Str) (i : Nat) (x : Str) : Bool := decide (N[i]? = some x)
mutual
def sameW : W → W → Bool
  | .non, .non => true
  | .bl a, .bl b => decide (a = b)
  | .int a, .int b => decide (a = b)
  | .str a, .str b => decide (a = b)
  | .tup a, .tup b => sameWs a b
  | .clst a, .clst b => sameWs a b
  | _, _ => false
def sameWs : List W → List W → Bool
  | [], [] => true
  | a :: r, b :: s => sameW a b && sameWs r s
  | _, _ => false
end
mutual
theorem sameW_eq : ∀ {a b : W}, sameW a b = true → a = b
  | .non, .non, _ => rfl
  | .bl a, .bl b, h => by rw [of_decide_eq_true h]
  | .int a, .int b, h => by rw [of_decide_eq_true h]
  | .str a, .str b, h => by rw [of_decide_eq_true h]
  | .tup a, .tup b, h => by rw [sameWs_eq (show sameWs a b = true by simpa only [sameW] using h)]
  | .clst a, .clst b, h => by rw [sameWs_eq (show sameWs a b = true by simpa only [sameW] using h)]
  | .non, .bl _, h | .non, .int _, h | .non, .str _, h | .non, .ref _, h | .non, .tup _, h | .non, .clst _, h => by simp [sameW] at h
  | .bl _, .non, h | .bl _, .int _, h | .bl _, .str _, h | .bl _, .ref _, h | .bl _, .tup _, h | .bl _, .clst _, h => by simp [sameW] at h
  | .int _, .non, h | .int _, .bl _, h | .int _, .str _, h | .int _, .ref _, h | .int _, .tup _, h | .int _, .clst _, h => by simp [sameW] at h
  | .str _, .non, h | .str _, .bl _, h | .str _, .int _, h | .str _, .ref _, h | .str _, .tup _, h | .str _, .clst _, h => by simp [sameW] at h
  | .ref _, _, h => by simp [sameW] at h
  | .tup _, .non, h | .tup _, .bl _, h | .tup _, .int _, h | .tup _, .str _, h | .tup _, .ref _, h | .tup _, .clst _, h => by simp [sameW] at h
  | .clst _, .non, h | .clst _, .bl _, h | .clst _, .int _, h | .clst _, .str _, h | .clst _, .ref _, h | .clst _, .tup _, h => by simp [sameW] at h
theorem sameWs_eq : ∀ {a b : List W}, sameWs a b = true → a = b
  | [], [], _ => rfl
  | a :: r, b :: s, h => by
    have h2 : (sameW a b && sameWs r s) = true := by simpa only [sameWs] using h
    rw [Bool.and_eq_true] at h2
    rw [sameW_eq h2.1, sameWs_eq h2.2]
  | [], _ :: _, h | _ :: _, [], h => by simp [sameWs] at h
end
def plainT : Expr → Bool | .UnaryOp .Not _ _ => false | .BoolOp _ _ _ => false | .IfExp _ _ _ _ => false | .Compare _ _ _ _ => false | _ => true
theorem plain_true {e : Expr} {env : Env} (h : plainT e = true) : ∀ whole, isTrue e env whole = (do let v ← whole; standAt e.pos; holding [v] (truthy v)) := by
  intro whole
  cases e with
  | UnaryOp op x p => cases op <;> first | rfl | (simp [plainT] at h)
  | BoolOp => simp [plainT] at h
  | IfExp => simp [plainT] at h
  | Compare => simp [plainT] at h
  | _ => rfl
def okBase : Expr → Bool | .Call (.Name x _) [] [] _ => !(x == ("super" : Str)) | _ => true
theorem base_of {o : Expr} {name : Str} {env : Env} (h : okBase o = true) : attributeBase o name env (eval o env) = eval o env := by
  unfold attributeBase
  split
  · rename_i x p pos
    have hx : (x != ("super" : Str)) = true := h
    rw [hx]; rfl
  · rfl
def notComp : Expr → Bool | .ListComp _ _ _ _ => false | .SetComp _ _ _ _ => false | .DictComp _ _ _ _ _ => false | _ => true
theorem noSwap {e : Expr} {t : Option Expr} {l : Nat} {env : Env} (h : notComp e = true) : swapsWith e t l env = pure false := by
  cases e <;> first | rfl | (simp [notComp] at h)
def notSet : Expr → Bool | .Set _ _ _ => false | _ => true
theorem noSet {e : Expr} {env : Env} (h : notSet e = true) : ∀ x, foldedSetIterable e env x = pure x := by
  intro x
  cases e <;> first | rfl | (simp [notSet] at h)
def isTupE : Expr → Bool | .Tuple _ _ _ => true | .List _ _ => true | _ => false
theorem noStores {tg e : Expr} {env : Env} (h : isTupE tg = false ∨ isTupE e = false) : swappedStores [tg] e env = pure none := by
  unfold swappedStores
  rcases h with h | h
  · cases tg <;> first | rfl | (simp [isTupE] at h)
  · cases e <;> first | (simp [isTupE] at h; done) | (cases tg <;> rfl)
def tgtOk : Expr → Bool | .Name _ _ => true | .Subscript _ _ _ => true | .Attribute _ _ _ => true | .Tuple _ _ _ => true | _ => false
theorem each_one {tg : Expr} {env : Env} (h : tgtOk tg = true) : (assignEach [tg] env).map (·.2) = [assign tg env] := by
  cases tg <;> first | rfl | (simp [tgtOk] at h)
theorem each_cons {tg : Expr} {es : List Expr} {env : Env} (h : tgtOk tg = true) : (assignEach (tg :: es) env).map (·.2) = assign tg env :: (assignEach es env).map (·.2) := by
  cases tg <;> first | rfl | (simp [tgtOk] at h)
theorem each_len {env : Env} : ∀ {es : List Expr}, es.all tgtOk = true → (assignEach es env).length = es.length
  | [], _ => rfl
  | e :: es, h => by
    rw [List.all_cons, Bool.and_eq_true] at h
    have ih := each_len (env := env) h.2
    have h1 := h.1
    cases e <;> first | (simp [tgtOk] at h1; done) | (show (assignEach es env).length + 1 = _; rw [ih]; rfl)
theorem each_nost {env : Env} : ∀ {es : List Expr}, es.all tgtOk = true → (assignEach es env).findIdx? (·.1) = none
  | [], _ => rfl
  | e :: es, h => by
    rw [List.all_cons, Bool.and_eq_true] at h
    have ih := each_nost (env := env) h.2
    have h1 := h.1
    cases e <;> first | (simp [tgtOk] at h1; done) | (show List.findIdx? (·.1) ((false, _) :: assignEach es env) = none; rw [List.findIdx?_cons, ih]; rfl)
def marksOk (op : CmpOp) (e : Expr) : Bool := !behindInMarks op e
def bmName : BM → Str | .strip1 => "strip" | .append => "append" | .lpop => "pop" | .lpop1 => "pop"
def bm0 : BM → Bool | .lpop => true | _ => false
def blkS (N : List Str) (sc : List (Str × NameKind)) (scope : Scope) (own : List (Str × Nat)) : Bool :=
  (match scope.kind with | .function => true | _ => false) && (scope.names.all fun y => decide (scope.names.lookup y.1 = some y.2)) && (own.all fun p => decide (N[p.2]? = some p.1)) &&
    (scope.names.all fun y => match y.2 with
      | .free => (match sc.lookup y.1 with | some .cell => true | some .free => true | _ => false)
      | .local => decide (y.1 ∈ own.map (·.1)) || decide (y.1 ∉ N)
      | .cell => decide (y.1 ∈ own.map (·.1)) || decide (y.1 ∉ N)
      | _ => true)
def ownOf (N : List Str) (vs : List Nat) : List (Str × Nat) := vs.map fun i => (N.getD i Str.empty, i)
theorem ownOf_snd (N : List Str) (vs : List Nat) : (ownOf N vs).map (·.2) = vs := by
  unfold ownOf
  rw [List.map_map]
  induction vs with
  | nil => rfl
  | cons v vs ih => rw [List.map_cons, ih]; rfl
section
variable (T : Tab) (N : List Str)
mutual
def chkE (sc : List (Str × NameKind)) (df : Bool) : IE → Expr → Bool
  | .var i, e => match e with | .Name x _ => atN N i x && visK sc x && okNm x | _ => false
  | .int n, e => match e with | .Constant (.int m) _ _ => decide (n = m) | _ => false
  | .str s, e => match e with | .Constant (.str m) _ _ => decide (s = m) | _ => false
  | .bl b, e => match e with | .Constant (.bool m) _ _ => decide (b = m) | _ => false
  | .non, e => match e with | .Constant .none _ _ => true | _ => false
  | .glob x w, e => match e with | .Name y _ => decide (x = y) && glK sc x && okNm x && (match T.gl.lookup x with | some u => sameW u w | none => false) | _ => false
  | .tup es, e => match e with | .Tuple xs _ _ => chkEs sc df es xs | _ => false
  | .dic ps, e => match e with | .Dict ks vs _ => decide (ks.length ≤ 15) && chkKV sc df ps ks vs | _ => false
  | .inG _ _ _ _, _ => false
  | .get2 a k d, e => match e with | .Call (.Attribute o name apos) [x, y] [] cpos => decide (name = ("get" : Str)) && chkE sc df a o && okBase o && (apos.endLine == cpos.line) && notStar x && notStar y && chkE sc df k x && chkE sc df d y | _ => false
  | .op o a b, e => match e with | .BinOp x op y _ => decide (op = boOp o) && chkE sc df a x && chkE sc df b y | _ => false
  | .neg a, e => match e with | .UnaryOp .USub x _ => chkE sc df a x | _ => false
  | .nt a, e => match e with | .UnaryOp .Not x _ => chkE sc df a x | _ => false
  | .andl es, e => match e with | .BoolOp .And xs _ => chkEs sc df es xs | _ => false
  | .orl es, e => match e with | .BoolOp .Or xs _ => chkEs sc df es xs | _ => false
  | .cmp o a b, e => match e with | .Compare x [op] [y] _ => decide (op = coOp o) && marksOk op y && chkE sc df a x && chkE sc df b y | _ => false
  | .ch o p a b c, e => match e with | .Compare x [op, op'] [y, z] _ => decide (op = coOp o) && decide (op' = coOp p) && !lastMarks [op, op'] [y, z] && chkE sc df a x && chkE sc df b y && chkE sc df c z | _ => false
  | .ife c a b, e => match e with | .IfExp t x y _ => chkE sc df c t && okT c t && chkE sc df a x && chkE sc df b y | _ => false
  | .ix a i, e => match e with | .Subscript x y _ => notSlice y && chkE sc df a x && chkE sc df i y | _ => false
  | .sl a lo hi, e => match e with | .Subscript x (.Slice l h none _) _ => chkE sc df a x && chkP sc df lo l && chkP sc df hi h | _ => false
  | .call f es, e => match e with | .Call (.Name x _) xs [] _ => (match T.fs f with | some r => decide (r.name = x) | none => false) && glK sc x && okNm x && chkEs sc df es xs | _ => false
  | .bi b es, e => match e with | .Call (.Name x _) (y :: ys) [] _ => decide (x = (biK b).1) && glK sc x && T.bl.contains x && chkEs sc df es (y :: ys) | _ => false
  | .bm m a es, e => match e with | .Call (.Attribute o name apos) xs [] cpos => decide (name = bmName m) && chkE sc df a o && okBase o && (apos.endLine == cpos.line) && chkEs sc df es xs && decide (xs.length < 20) && (if bm0 m then xs.isEmpty else !xs.isEmpty) | _ => false
  | .isi a ts, e => match e with
    | .Call (.Name x _) [e1, e2] [] _ => decide (x = ("isinstance" : Str)) && glK sc x && T.bl.contains x && chkE sc df a e1 && notStar e1 && chkTy sc ts e2
    | _ => false
  | .ofl l, e => chkL sc df l e
  | .bil b l, e => match e with | .Call (.Name x _) [y] [] _ => decide (x = (biK b).1) && glK sc x && T.bl.contains x && notStar y && chkL sc df l y | _ => false
  | .ixl l i, e => match e with | .Subscript x y _ => notSlice y && chkL sc df l x && chkE sc df i y | _ => false
  | .cmpl o a l, e => match e with | .Compare x [op] [y] _ => decide (op = coOp o) && marksOk op y && chkE sc df a x && chkL sc df l y | _ => false
  | .cmpll o l m, e => match e with | .Compare x [op] [y] _ => decide (op = coOp o) && marksOk op y && chkL sc df l x && chkL sc df m y | _ => false
def chkKV (sc : List (Str × NameKind)) (df : Bool) : IKs → List (Option Expr) → List Expr → Bool
  | .nil, ks, vs => ks.isEmpty && vs.isEmpty
  | .cons k v r, ks, vs => match ks, vs with | some a :: ks, b :: vs => chkE sc df k a && chkE sc df v b && chkKV sc df r ks vs | _, _ => false
def chkEs (sc : List (Str × NameKind)) (df : Bool) : IEs → List Expr → Bool
  | .nil, xs => match xs with | [] => true | _ => false
  | .cons a r, xs => match xs with | x :: ys => notStar x && chkE sc df a x && chkEs sc df r ys | [] => false
def chkP (sc : List (Str × NameKind)) (df : Bool) : IP → Option Expr → Bool
  | .no, e => match e with | none => true | _ => false
  | .ex a, e => match e with | some x => chkE sc df a x | none => false
def chkL (sc : List (Str × NameKind)) (df : Bool) : IL → Expr → Bool
  | .disp es, e => match e with | .List xs _ => chkEs sc df es xs | _ => false
  | .comp vs tg wk cs elt, e => match e with
    | .ListComp x [⟨t, it, ifs, a⟩] scope _ => decide (a = 0) && blkS N sc scope (ownOf N vs) && notSet it && chkW sc df wk it && chkGc scope.names vs tg t && chkTs scope.names cs ifs && chkE scope.names false elt x
    | _ => false
def chkTs (sc : List (Str × NameKind)) : IEs → List Expr → Bool
  | .nil, xs => match xs with | [] => true | _ => false
  | .cons c r, xs => match xs with | [x] => (match r with | .nil => true | _ => false) && chkE sc false c x && okT c x | _ => false
def chkW (sc : List (Str × NameKind)) (df : Bool) : IW → Expr → Bool
  | .seq a, e => chkE sc df a e
  | .seql l, e => chkL sc df l e
  | .rng1 a, e => match e with | .Call (.Name x _) [y] [] _ => decide (x = ("range" : Str)) && glK sc x && T.bl.contains x && notStar y && chkE sc df a y | _ => false
  | .rng2 a b, e => match e with | .Call (.Name x _) [y, z] [] _ => decide (x = ("range" : Str)) && glK sc x && T.bl.contains x && notStar y && notStar z && chkE sc df a y && chkE sc df b z | _ => false
def chkG (sc : List (Str × NameKind)) (df : Bool) : IG → Expr → Bool
  | .nm i, e => match e with | .Name x _ => atN N i x && stoK df sc x | _ => false
  | .tp ts, e => match e with | .Tuple xs _ _ => xs.all tgtOk && chkGs sc df ts xs | _ => false
  | .sub a i, e => match e with | .Subscript x y _ => notSlice y && chkE sc df a x && chkE sc df i y | _ => false
def chkGs (sc : List (Str × NameKind)) (df : Bool) : IGs → List Expr → Bool
  | .nil, xs => match xs with | [] => true | _ => false
  | .cons t r, xs => match xs with | x :: ys => tgtOk x && chkG sc df t x && chkGs sc df r ys | [] => false
def chkGc (sc : List (Str × NameKind)) (vs : List Nat) : IG → Expr → Bool
  | .nm i, e => match e with | .Name x _ => atN N i x && locK sc x && vs.contains i | _ => false
  | .tp ts, e => match e with | .Tuple xs _ _ => xs.all tgtOk && chkGcs sc vs ts xs | _ => false
  | .sub _ _, _ => false
def chkGcs (sc : List (Str × NameKind)) (vs : List Nat) : IGs → List Expr → Bool
  | .nil, xs => match xs with | [] => true | _ => false
  | .cons t r, xs => match xs with | x :: ys => tgtOk x && chkGc sc vs t x && chkGcs sc vs r ys | [] => false
/-- may it stand as a test? -/
def okT : IE → Expr → Bool
  | .nt a, e => match e with | .UnaryOp .Not x _ => okT a x | _ => false
  | .andl es, e => match e with | .BoolOp .And xs _ => okTs es xs | _ => false
  | .orl es, e => match e with | .BoolOp .Or xs _ => okTs es xs | _ => false
  | .cmp _ _ _, _ => true | .ch _ _ _ _ _, _ => true | .cmpl _ _ _, _ => true | .cmpll _ _ _, _ => true
  | .ife _ _ _, _ => false
  | _, e => plainT e
def okTs : IEs → List Expr → Bool
  | .nil, xs => match xs with | [] => true | _ => false
  | .cons a r, xs => match xs with | x :: ys => okT a x && okTs r ys | [] => false
def chkTy (sc : List (Str × NameKind)) : List TY → Expr → Bool
  | [u], .Name y _ => decide (u ≠ .non) && decide (y = Str.ofString (tyName u)) && glK sc y && T.bl.contains y
  | us, .Tuple ys _ _ => decide (us.length ≤ 100) && decide (us.length = ys.length) && (us.zip ys).all fun p => match p.2 with | .Name y _ => decide (p.1 ≠ .non) && decide (y = Str.ofString (tyName p.1)) && glK sc y && T.bl.contains y | _ => false
  | _, _ => false
end
end
end PV
/-! PVJ: what the check gives -/
namespace PV
open PySem PySem.Spec L2
open PyProof.Rows hiding St
theorem lookup_rel_free {env : Env} : ∀ {names : List (Str × NameKind)} {x : Str}, names.lookup x = some .free →
    (names.map fun (n, k) => if (k == NameKind.free && env.scope.kind == .function && env.kindOf n == some .cell) then (n, NameKind.cell) else (n, k)).lookup x = some .cell ∨
    (names.map fun (n, k) => if (k == NameKind.free && env.scope.kind == .function && env.kindOf n == some .cell) then (n, NameKind.cell) else (n, k)).lookup x = some .free
  | [], x, h => by simp at h
  | (n, k₀) :: r, x, h => by
    have ih := @lookup_rel_free env r x
    show List.lookup x ((if (k₀ == NameKind.free && env.scope.kind == .function && env.kindOf n == some .cell) = true then (n, NameKind.cell) else (n, k₀)) :: _) = _ ∨ List.lookup x ((if (k₀ == NameKind.free && env.scope.kind == .function && env.kindOf n == some .cell) = true then (n, NameKind.cell) else (n, k₀)) :: _) = _
    cases hx : x == n with
    | true =>
      simp only [List.lookup_cons, hx] at h
      cases h
      by_cases hc : (NameKind.free == NameKind.free && env.scope.kind == .function && env.kindOf n == some .cell) = true
      · rw [if_pos hc]
        left
        simp only [List.lookup_cons, hx]
      · rw [if_neg hc]
        right
        simp only [List.lookup_cons, hx]
    | false =>
      simp only [List.lookup_cons, hx] at h
      by_cases hc : (k₀ == NameKind.free && env.scope.kind == .function && env.kindOf n == some .cell) = true
      · rw [if_pos hc]; simp only [List.lookup_cons, hx]; exact ih h
      · rw [if_neg hc]; simp only [List.lookup_cons, hx]; exact ih h
section
variable {T : Tab} {rec : Rec} {N : List Str} {sc : List (Str × NameKind)} {df : Bool} {X : Cx}
theorem Good.vis (g : Good T rec N sc df X) {x : Str} (h : visK sc x = true) : Vis X.env.scope x := by
  unfold visK at h
  split at h
  · rename_i e; exact .inl (g.loc x e)
  · rename_i e; exact .inr (g.cap x (.inl e))
  · rename_i e; exact .inr (g.cap x (.inr e))
  · cases h
theorem Good.sto (g : Good T rec N sc df X) {x : Str} (h : stoK df sc x = true) : Loc X.env.scope x ∧ (X.fn x = true ∨ X.env.scope.names.lookup x = some .local) := by
  unfold stoK at h
  split at h
  · rename_i e; exact ⟨.inl (g.loc x e), .inr (g.loc x e)⟩
  · rename_i e
    obtain ⟨h1, h2⟩ := g.cst h x e
    exact ⟨.inr h1, .inl h2⟩
  · cases h
theorem Good.lk (g : Good T rec N sc df X) {x : Str} (h : locK sc x = true) : X.env.scope.names.lookup x = some .local := by
  unfold locK at h
  split at h
  · rename_i e; exact g.loc x e
  · cases h
theorem Good.glo (g : Good T rec N sc df X) {x : Str} (h : glK sc x = true) : Gl X x := by
  unfold glK at h
  split at h
  · rename_i e; exact g.gl x e
  · cases h
theorem Good.at_ (g : Good T rec N sc df X) {i : Nat} {x : Str} (h : atN N i x = true) : X.N[i]? = some x := by
  rw [g.n]; exact of_decide_eq_true h
theorem Good.ndx (g : Good T rec N sc df X) : X.N.Nodup := by rw [g.n]; exact g.nd
theorem Good.room (g : Good T rec N sc df X) : Room 0 X.A := by
  obtain ⟨k, r, _⟩ := g.sig
  exact r.mono (Nat.zero_le _)
theorem okNm_of {x : Str} (h : okNm x = true) : (x == ("__debug__" : Str)) = false ∧ (x == ("__classdict__" : Str)) = false := by
  unfold okNm at h
  rw [Bool.and_eq_true, Bool.not_eq_true', Bool.not_eq_true'] at h
  exact h
theorem Good.blt (g : Good T rec N sc df X) {x : Str} (h : T.bl.contains x = true) : X.mg x = none := by
  obtain ⟨k, _, s⟩ := g.sig
  exact s.blts x (List.contains_iff_mem.mp h)
theorem blkS_of {scope : Scope} {own : List (Str × Nat)} (h : blkS N sc scope own = true) : scope.kind = .function ∧ (∀ y ∈ scope.names, scope.names.lookup y.1 = some y.2) ∧ (∀ p ∈ own, N[p.2]? = some p.1) ∧
    (∀ y ∈ scope.names, y.2 = .free → sc.lookup y.1 = some .cell ∨ sc.lookup y.1 = some .free) ∧ (∀ y ∈ scope.names, y.2 = .local ∨ y.2 = .cell → y.1 ∈ own.map (·.1) ∨ y.1 ∉ N) := by
  unfold blkS at h
  simp only [Bool.and_eq_true, List.all_eq_true, decide_eq_true_eq] at h
  obtain ⟨⟨⟨h1, h2⟩, h3⟩, h4⟩ := h
  refine ⟨?_, h2, h3, fun y hy e => ?_, fun y hy e => ?_⟩
  · split at h1
    · assumption
    · cases h1
  · have q := h4 y hy
    simp only [e] at q
    split at q <;> first | exact .inl (by assumption) | exact .inr (by assumption) | cases q
  · have q := h4 y hy
    rcases e with e | e <;> (simp only [e, Bool.or_eq_true, decide_eq_true_eq] at q; exact q)
theorem Good.blkOk (g : Good T rec N sc df X) {scope : Scope} {own : List (Str × Nat)} (h : blkS N sc scope own = true) : BlkOk X.N X.env.scope scope own := by
  obtain ⟨h1, h2, h3, h4, h5⟩ := blkS_of h
  refine ⟨h1, h2, by rw [g.n]; exact h3, fun y hy e => g.cap y.1 (h4 y hy e), by rw [g.n]; exact h5⟩
theorem Good.blk (g : Good T rec N sc df X) {scope : Scope} {own : List (Str × Nat)} (h : blkS N sc scope own = true) (s : Shared) (H : Hp) (C : Addr) (cl : List (Str × Addr)) (fp : List Addr) :
    Good T rec N scope.names false (X.blk s H scope (compEnvC scope cl C X.env) fp) := by
  obtain ⟨h1, h2, h3, h4, h5⟩ := blkS_of h
  refine ⟨g.n, g.nd, h1, fun x e => lookup_relabel_local (env := X.env) e, fun x e => ?_, fun z => Bool.noConfusion z, fun x e => ?_, g.calm, g.sig, rfl⟩
  · rcases e with e | e
    · exact .inl (lookup_relS_keep (sc := X.env.scope) (by decide) e)
    · exact lookup_rel_free (env := X.env) e
  · exact lookup_relS_keep (sc := X.env.scope) (by decide) e
theorem okAug (o : BO) : ∃ r, PIp X (boOp o) r ∧ OkR X.K (opAug o) r := by
  cases o with
  | add =>
    refine ⟨_, iop_add.or iop_add_str, ?_⟩
    intro x y G Qw vx vy H Q h rh rx ry k
    simp only [opAug] at h
    split at h
    · cases rx; cases ry
      exact .inl ⟨_, _, rfl, rfl, k.int rh h⟩
    · cases rx; cases ry
      exact .inr ⟨_, _, rfl, rfl, h.1, k.str rh h.2⟩
    · exact h.elim
  | sub => exact ⟨_, iop_sub, fun x y G Qw vx vy H Q h rh rx ry k => okr_sub x y G Qw vx vy H Q h rh rx ry k⟩
  | mul => exact ⟨_, iop_mul, fun x y G Qw vx vy H Q h rh rx ry k => okr_mul x y G Qw vx vy H Q h rh rx ry k⟩
  | fdiv => exact ⟨fun _ _ _ _ => False, fun _ _ _ _ _ _ _ _ _ _ _ _ h => h.elim, fun _ _ _ _ _ _ _ _ h _ _ _ _ => h.elim⟩
  | mod => exact ⟨fun _ _ _ _ => False, fun _ _ _ _ _ _ _ _ _ _ _ _ h => h.elim, fun _ _ _ _ _ _ _ _ h _ _ _ _ => h.elim⟩
  | pow => exact ⟨fun _ _ _ _ => False, fun _ _ _ _ _ _ _ _ _ _ _ _ h => h.elim, fun _ _ _ _ _ _ _ _ h _ _ _ _ => h.elim⟩
end
end PV
/-! PVK: soundness -/
namespace PV
open PySem PySem.Spec L2
open PyProof.Rows hiding St
def noX : QX := fun _ _ _ => False
/-- as a value, as a test -/
def SV (s : Sm) (X : Cx) (e : Expr) : Prop := PE X e (LE X.K s.v)
def ST (s : Sm) (X : Cx) (e : Expr) : Prop := PT X e (LT X.K s.t)
theorem and2 {a b : Bool} (h : (a && b) = true) : a = true ∧ b = true := by rw [Bool.and_eq_true] at h; exact h
theorem nott {a : Bool} (h : (!a) = true) : a = false := by rw [Bool.not_eq_true'] at h; exact h
theorem tst {X : Cx} {e : Expr} {v : Sw → GH → QW → Prop} (h : PE X e (LE X.K v)) (p : plainT e = true) : ST (.of v) X e := st_plain h (plain_true p)
theorem bth {X : Cx} {e : Expr} {v : Sw → GH → QW → Prop} (h : PE X e (LE X.K v)) : SV (.of v) X e ∧ (plainT e = true → ST (.of v) X e) := ⟨h, tst h⟩
theorem bm_se0 {m : BM} {X : Cx} {o : Expr} {apos cpos : Pos} {ta : Sw → GH → QW → Prop} (ho : PE X o (LE X.K ta)) (hbase : attributeBase o (bmName m) X.env (eval o X.env) = eval o X.env)
    (hline : (apos.endLine == cpos.line) = true) (h0 : bm0 m = true) : PE X (.Call (.Attribute o (bmName m) apos) [] [] cpos) (LE X.K fun σ G Q => ta σ G fun x G1 => bmTy m x G1 (bmF m x [] G1 Q)) := by
  cases m with
  | lpop => exact se_bm0 PySem.F.plainAttrs_list PySem.F.slot_list_pop PySem.F.type_list_pop mt_pop okm_pop ho hbase hline
  | strip1 => cases h0
  | append => cases h0
  | lpop1 => cases h0
theorem bm_se1 {m : BM} {X : Cx} {o e : Expr} {es : List Expr} {apos cpos : Pos} {ta : Sw → GH → QW → Prop} {t : Sw → GH → (List W → GH → Prop) → Prop} (ho : PE X o (LE X.K ta)) (ha : PA X (e :: es) (LA X.K t)) (hbase : attributeBase o (bmName m) X.env (eval o X.env) = eval o X.env)
    (hl : es.length < 20) (hline : (apos.endLine == cpos.line) = true) (hs : notStar e = true) (hss : es.all notStar = true) (h0 : bm0 m = false) :
    PE X (.Call (.Attribute o (bmName m) apos) (e :: es) [] cpos) (LE X.K fun σ G Q => ta σ G fun x G1 => bmTy m x G1 (t σ G1 fun ws G2 => bmF m x ws G2 Q)) := by
  cases m with
  | strip1 => exact se_bm PySem.F.plainAttrs_str PySem.F.slot_str_strip PySem.F.type_str_strip mt_stripChars okm_strip ho ha hbase hl hline hs hss
  | append => exact se_bm PySem.F.plainAttrs_list PySem.F.slot_list_append PySem.F.type_list_append mt_append okm_append ho ha hbase hl hline hs hss
  | lpop1 => exact se_bm PySem.F.plainAttrs_list PySem.F.slot_list_pop PySem.F.type_list_pop mt_popAt okm_pop1 ho ha hbase hl hline hs hss
  | lpop => cases h0
theorem se_false {X : Cx} {e : Expr} : PE X e (LE X.K fun _ _ _ => False) := ⟨fun pins s σ H Q I ⟨_, _, _, _, _, h, _⟩ => h.elim⟩
theorem sw_false {X : Cx} {e : Expr} : PW X e (LT X.K fun _ _ _ => False) := ⟨fun wh pins s σ H Q I ⟨_, _, _, _, _, h, _⟩ => h.elim⟩
theorem LD.fromE {X : Cx} {e : Expr} {t : Sw → GH → QW → Prop} (h : PE X e (LE X.K t)) : PE X e (LD X.K t) := peMono h fun σ H Q q => LD.ofE q
theorem LD.fromL {X : Cx} {e : Expr} {t : Sw → GH → (List W → GH → Prop) → Prop} (h : PE X e (LL X.K t)) : PE X e (LD X.K fun σ G Q => t σ G fun ws G1 => Q (.clst ws) G1) := peMono h fun σ H Q q => LD.ofL q
theorem sub_of {o i : Expr} {pos : Pos} {env : Env} (h : notSlice i = true) : ∀ v, assign (.Subscript o i pos) env v = (do
      let ov ← holding [v] (eval o env)
      let iv ← holding [v, ov] (eval i env)
      standAt pos
      holding [v, ov, iv] (setItem ov iv v)
      release [v, ov, iv] []) := by
  intro v
  cases i <;> first | rfl | (simp [notSlice] at h)
theorem lenG_of {T : Tab} {N : List Str} {sc : List (Str × NameKind)} {df : Bool} : ∀ (ts : IGs) {xs : List Expr}, chkGs T N sc df ts xs = true → lenG ts = xs.length
  | .nil, xs, h => by
    simp only [chkGs] at h
    split at h
    · rfl
    · cases h
  | .cons t r, xs, h => by
    simp only [chkGs] at h
    split at h
    · rw [List.length_cons, ← lenG_of r (and2 h).2]; rfl
    · cases h
theorem lenGc_of {T : Tab} {N : List Str} {sc : List (Str × NameKind)} {vs : List Nat} : ∀ (ts : IGs) {xs : List Expr}, chkGcs T N sc vs ts xs = true → lenG ts = xs.length
  | .nil, xs, h => by
    simp only [chkGcs] at h
    split at h
    · rfl
    · cases h
  | .cons t r, xs, h => by
    simp only [chkGcs] at h
    split at h
    · rw [List.length_cons, ← lenGc_of (T := T) r (and2 h).2]; rfl
    · cases h
theorem tyNames_of {T : Tab} {rec : Rec} {N : List Str} {sc : List (Str × NameKind)} {df : Bool} {X : Cx} (g : Good T rec N sc df X) : ∀ (us : List TY) (ys : List Expr), us.length = ys.length →
    ((us.zip ys).all fun p => match p.2 with | .Name y _ => decide (p.1 ≠ .non) && decide (y = Str.ofString (tyName p.1)) && glK sc y && T.bl.contains y | _ => false) = true → TyNames X ys us
  | [], [], _, _ => tyNames_nil
  | [], _ :: _, h, _ => by cases h
  | _ :: _, [], h, _ => by cases h
  | u :: us, y :: ys, h, ha => by
    rw [List.zip_cons_cons, List.all_cons, Bool.and_eq_true] at ha
    obtain ⟨h9, h10⟩ := ha
    cases y with
    | Name y p =>
      obtain ⟨hABC, hD⟩ := and2 h9
      obtain ⟨hAB, hC⟩ := and2 hABC
      obtain ⟨hA, hB⟩ := and2 hAB
      have ey : y = Str.ofString (tyName u) := of_decide_eq_true hB
      subst ey
      exact tyNames_cons (of_decide_eq_true hA) (g.glo hC) (g.blt hD) (tyNames_of g us ys (by simpa using h) h10)
    | _ => cases h9
section
variable {T : Tab} {rec : Rec} {N : List Str}
mutual
theorem sE : ∀ (ie : IE) {sc : List (Str × NameKind)} {df : Bool} {X : Cx} {e : Expr}, Good T rec N sc df X → chkE T N sc df ie e = true → SV (sm rec noX ie) X e ∧ (okT T N ie e = true → ST (sm rec noX ie) X e)
  | .var i, sc, df, X, e, g, h => by
    simp only [chkE] at h
    split at h
    · rename_i x p
      obtain ⟨h, h3⟩ := and2 h
      obtain ⟨h1, h2⟩ := and2 h
      exact bth (se_var (g.at_ h1) (g.vis h2) (okNm_of h3).1 (okNm_of h3).2)
    · cases h
  | .int n, sc, df, X, e, g, h => by
    simp only [chkE] at h
    split at h
    · rw [of_decide_eq_true h]
      exact bth (se_c (w := .int _) pe_int fun H => .int _)
    · cases h
  | .str n, sc, df, X, e, g, h => by
    simp only [chkE] at h
    split at h
    · rw [of_decide_eq_true h]
      exact bth (se_c (w := .str _) pe_str fun H => .str _)
    · cases h
  | .bl n, sc, df, X, e, g, h => by
    simp only [chkE] at h
    split at h
    · rw [of_decide_eq_true h]
      exact bth (se_c (w := .bl _) pe_bl fun H => .bl _)
    · cases h
  | .non, sc, df, X, e, g, h => by
    simp only [chkE] at h
    split at h
    · exact bth (se_c (w := .non) pe_non fun H => .non)
    · cases h
  | .glob x w, sc, df, X, e, g, h => by
    simp only [chkE] at h
    split at h
    · obtain ⟨h, h4⟩ := and2 h
      obtain ⟨h, h3⟩ := and2 h
      obtain ⟨h1, h2⟩ := and2 h
      have e1 := of_decide_eq_true h1
      subst e1
      obtain ⟨k, _, s⟩ := g.sig
      split at h4
      · rename_i u hu
        have e2 := sameW_eq h4
        subst e2
        obtain ⟨val, v, m, r, rp⟩ := s.globs _ _ hu
        exact bth (se_c (pe_glob (g.glo h2) m r (okNm_of h3).1) rp)
      · cases h4
    · cases h
  | .tup es, sc, df, X, e, g, h => by
    simp only [chkE] at h
    split at h
    · exact bth (se_tup (sEs es g h).1)
    · cases h
  | .dic ps, sc, df, X, e, g, h => by
    simp only [chkE] at h
    split at h
    · rename_i ks vs pos
      obtain ⟨h1, h2⟩ := and2 h
      obtain ⟨q, qa, ql⟩ := sKV ps pos g h2
      cases ks with
      | nil =>
        cases ps with
        | nil =>
          cases vs with
          | nil => exact bth (se_dic0 (X := X))
          | cons _ _ => cases ql
        | cons _ _ _ => simp [chkKV] at h2
      | cons a ks => exact bth (se_dic q qa ql (by intro z; cases z) (of_decide_eq_true h1))
    · cases h
  | .inG _ _ _ _, sc, df, X, e, g, h => by simp [chkE] at h
  | .get2 a k d, sc, df, X, e, g, h => by
    simp only [chkE] at h
    split at h
    · obtain ⟨h, h8⟩ := and2 h
      obtain ⟨h, h7⟩ := and2 h
      obtain ⟨h, h6⟩ := and2 h
      obtain ⟨h, h5⟩ := and2 h
      obtain ⟨h, h4⟩ := and2 h
      obtain ⟨h, h3⟩ := and2 h
      obtain ⟨h1, h2⟩ := and2 h
      have e1 := of_decide_eq_true h1
      subst e1
      have q := se_get2 g.room (sE a g h2).1 (sE k g h7).1 (sE d g h8).1 ⟨base_of h3, by rw [star_of h5, star_of h6]; rfl, h4, by rw [star_of h5, star_of h6]; rfl⟩
      exact ⟨q, fun t => tst q t⟩
    · cases h
  | .op o a b, sc, df, X, e, g, h => by
    simp only [chkE] at h
    split at h
    · obtain ⟨h, h3⟩ := and2 h
      obtain ⟨h1, h2⟩ := and2 h
      rw [of_decide_eq_true h1]
      obtain ⟨r, ho, ok⟩ := okB (X := X) o
      exact bth (se_op ho ok (sE a g h2).1 (sE b g h3).1)
    · cases h
  | .neg a, sc, df, X, e, g, h => by
    simp only [chkE] at h
    split at h
    · exact bth (se_neg (sE a g h).1)
    · cases h
  | .nt a, sc, df, X, e, g, h => by
    simp only [chkE] at h
    split at h
    · obtain ⟨q1, q2⟩ := sE a g h
      exact ⟨se_not q1, fun t => st_not (q2 (by simpa only [okT] using t))⟩
    · cases h
  | .andl es, sc, df, X, e, g, h => by
    simp only [chkE] at h
    split at h
    · obtain ⟨q1, q2⟩ := sAnd es g h
      exact ⟨q1 _, fun t => (q2 t _).pt⟩
    · cases h
  | .orl es, sc, df, X, e, g, h => by
    simp only [chkE] at h
    split at h
    · obtain ⟨q1, q2⟩ := sOr es g h
      exact ⟨q1 _, fun t => (q2 t _).pt⟩
    · cases h
  | .cmp o a b, sc, df, X, e, g, h => by
    simp only [chkE] at h
    split at h
    · obtain ⟨h, h4⟩ := and2 h
      obtain ⟨h, h3⟩ := and2 h
      obtain ⟨h1, h2⟩ := and2 h
      rw [of_decide_eq_true h1] at h2 ⊢
      obtain ⟨r, ho, ok⟩ := okC g.room o
      have qa := (sE a g h3).1
      have qb := LD.fromE (sE b g h4).1
      exact ⟨se_cmpD ho ok qa qb (nott h2), fun _ => st_cmpD ho ok qa qb (nott h2)⟩
    · cases h
  | .ch o p a b c, sc, df, X, e, g, h => by
    simp only [chkE] at h
    split at h
    · obtain ⟨h, h6⟩ := and2 h
      obtain ⟨h, h5⟩ := and2 h
      obtain ⟨h, h4⟩ := and2 h
      obtain ⟨h, h3⟩ := and2 h
      obtain ⟨h1, h2⟩ := and2 h
      rw [of_decide_eq_true h1, of_decide_eq_true h2] at h3 ⊢
      obtain ⟨r, ho, ok⟩ := okC g.room o
      obtain ⟨r', ho', ok'⟩ := okC g.room p
      exact ⟨se_ch ho ok ho' ok' (sE a g h4).1 (sE b g h5).1 (sE c g h6).1 (nott h3), fun _ => st_ch ho ok ho' ok' (sE a g h4).1 (sE b g h5).1 (sE c g h6).1 (nott h3)⟩
    · cases h
  | .ife c a b, sc, df, X, e, g, h => by
    simp only [chkE] at h
    split at h
    · obtain ⟨h, h4⟩ := and2 h
      obtain ⟨h, h3⟩ := and2 h
      obtain ⟨h1, h2⟩ := and2 h
      exact ⟨se_ife ((sE c g h1).2 h2) (sE a g h3).1 (sE b g h4).1, fun t => by simp [okT] at t⟩
    · cases h
  | .ix a i, sc, df, X, e, g, h => by
    simp only [chkE] at h
    split at h
    · obtain ⟨h, h3⟩ := and2 h
      obtain ⟨h1, h2⟩ := and2 h
      exact bth (se_ix g.room (sE a g h2).1 (sE i g h3).1 h1)
    · cases h
  | .sl a lo hi, sc, df, X, e, g, h => by
    simp only [chkE] at h
    split at h
    · obtain ⟨h, h3⟩ := and2 h
      obtain ⟨h1, h2⟩ := and2 h
      exact bth (se_sl (sE a g h1).1 (sP lo g h2) (sP hi g h3))
    · cases h
  | .call f es, sc, df, X, e, g, h => by
    simp only [chkE] at h
    split at h
    · rename_i x p xs pos
      obtain ⟨h, h4⟩ := and2 h
      obtain ⟨h, h3⟩ := and2 h
      obtain ⟨h1, h2⟩ := and2 h
      obtain ⟨k, hr, s⟩ := g.sig
      split at h1
      · rename_i r hf
        have e1 := of_decide_eq_true h1
        subst e1
        obtain ⟨a, fd, ps, m, kp, bn, F⟩ := s.calls f r hf
        obtain ⟨qa, qs⟩ := sEs es g h4
        have q : PE X (.Call (.Name r.name p) xs [] pos) (LE X.K fun σ G Q => evs rec noX es σ G fun ws G1 => rec f ws G1 Q fun _ _ => False) := by
          cases xs with
          | cons y ys =>
            rw [List.all_cons, Bool.and_eq_true] at qs
            exact se_call F hr (g.glo h2) m kp bn qa (okNm_of h3).1 qs.1 qs.2 fun ws G Q E => s.lens f r ws G Q E hf
          | nil =>
            cases es with
            | nil => exact se_call0 F hr (g.glo h2) m kp bn (okNm_of h3).1 fun ws G Q E => s.lens f r ws G Q E hf
            | cons _ _ => simp only [chkEs] at h4; cases h4
        exact ⟨q, fun t => tst q t⟩
      · cases h1
    · cases h
  | .bi b es, sc, df, X, e, g, h => by
    simp only [chkE] at h
    split at h
    · obtain ⟨h, h4⟩ := and2 h
      obtain ⟨h, h3⟩ := and2 h
      obtain ⟨h1, h2⟩ := and2 h
      have e1 := of_decide_eq_true h1
      subst e1
      obtain ⟨r, hc, ok, _⟩ := okBI g.calm b
      obtain ⟨qa, qs⟩ := sEs es g h4
      rw [List.all_cons, Bool.and_eq_true] at qs
      exact bth (se_bi hc ok (biK_shape b) (g.glo h2) (g.blt h3) (boot_bi b) qa (biK_name b).2 (biK_name b).1 qs.1 qs.2)
    · cases h
  | .bm m a es, sc, df, X, e, g, h => by
    simp only [chkE] at h
    split at h
    · rename_i o name apos xs cpos
      obtain ⟨h, h7⟩ := and2 h
      obtain ⟨h, h6⟩ := and2 h
      obtain ⟨h, h5⟩ := and2 h
      obtain ⟨h, h4⟩ := and2 h
      obtain ⟨h, h3⟩ := and2 h
      obtain ⟨h1, h2⟩ := and2 h
      have e1 := of_decide_eq_true h1
      subst e1
      have h6 := of_decide_eq_true h6
      obtain ⟨qa, qs⟩ := sEs es g h5
      have qo := (sE a g h2).1
      have q : PE X (.Call (.Attribute o (bmName m) apos) xs [] cpos) (LE X.K fun σ G Q => (sm rec noX a).v σ G fun x G1 => bmTy m x G1 (evs rec noX es σ G1 fun ws G2 => bmF m x ws G2 Q)) := by
        cases xs with
        | cons y ys =>
          rw [List.all_cons, Bool.and_eq_true] at qs
          have h0 : bm0 m = false := by
            cases e0 : bm0 m with
            | false => rfl
            | true => rw [e0] at h7; cases h7
          exact bm_se1 qo qa (base_of h3) (by rw [List.length_cons] at h6; omega) h4 qs.1 qs.2 h0
        | nil =>
          have h0 : bm0 m = true := by
            cases e0 : bm0 m with
            | true => rfl
            | false => rw [e0] at h7; cases h7
          cases es with
          | nil => exact bm_se0 qo (base_of h3) h4 h0
          | cons _ _ => simp only [chkEs] at h5; cases h5
      exact ⟨q, fun t => tst q t⟩
    · cases h
  | .isi a ts, sc, df, X, e, g, h => by
    simp only [chkE] at h
    split at h
    · rename_i x p e1 e2 pos
      obtain ⟨h, h6⟩ := and2 h
      obtain ⟨h, h5⟩ := and2 h
      obtain ⟨h, h4⟩ := and2 h
      obtain ⟨h, h3⟩ := and2 h
      obtain ⟨h1, h2⟩ := and2 h
      have ex := of_decide_eq_true h1
      subst ex
      have qa := (sE a g h4).1
      have q : PE X (.Call (.Name "isinstance" p) [e1, e2] [] pos) (LE X.K fun σ G Q => (sm rec noX a).v σ G fun x G1 => iso x ts G1 fun c => Q (.bl c) G1) := by
        unfold chkTy at h6
        split at h6
        · rename_i u y p2
          obtain ⟨hABC, hD⟩ := and2 h6
          obtain ⟨hAB, hC⟩ := and2 hABC
          obtain ⟨hA, hB⟩ := and2 hAB
          have ey := of_decide_eq_true hB
          subst ey
          exact se_isi1 qa (of_decide_eq_true hA) (g.glo h2) (g.blt h3) (g.glo hC) (g.blt hD) h5
        · rename_i us ys k p2
          obtain ⟨h, h9⟩ := and2 h6
          obtain ⟨h7, h8⟩ := and2 h
          exact se_isiT qa (of_decide_eq_true h7) (tyNames_of g _ _ (of_decide_eq_true h8) h9) (g.glo h2) (g.blt h3) h5
        · cases h6
      exact ⟨q, fun t => tst q t⟩
    · cases h
  | .ofl l, sc, df, X, e, g, h => by
    simp only [chkE] at h
    exact bth (se_ofl (sL l g h))
  | .bil b l, sc, df, X, e, g, h => by
    simp only [chkE] at h
    split at h
    · obtain ⟨h, h5⟩ := and2 h
      obtain ⟨h, h4⟩ := and2 h
      obtain ⟨h, h3⟩ := and2 h
      obtain ⟨h1, h2⟩ := and2 h
      have e1 := of_decide_eq_true h1
      subst e1
      obtain ⟨r, hc, _, ok⟩ := okBI g.calm b
      exact bth (se_bil hc ok (biK_shape b) (g.glo h2) (g.blt h3) (boot_bi b) (sL l g h5) (biK_name b).2 (biK_name b).1 h4)
    · cases h
  | .ixl l i, sc, df, X, e, g, h => by
    simp only [chkE] at h
    split at h
    · obtain ⟨h, h3⟩ := and2 h
      obtain ⟨h1, h2⟩ := and2 h
      exact bth (se_ixl (sL l g h2) (sE i g h3).1 h1)
    · cases h
  | .cmpl o a l, sc, df, X, e, g, h => by
    simp only [chkE] at h
    split at h
    · obtain ⟨h, h4⟩ := and2 h
      obtain ⟨h, h3⟩ := and2 h
      obtain ⟨h1, h2⟩ := and2 h
      rw [of_decide_eq_true h1] at h2 ⊢
      obtain ⟨r, ho, ok⟩ := okC g.room o
      have qa := (sE a g h3).1
      have qb := LD.fromL (sL l g h4)
      exact ⟨se_cmpD ho ok qa qb (nott h2), fun _ => st_cmpD ho ok qa qb (nott h2)⟩
    · cases h
  | .cmpll o l m, sc, df, X, e, g, h => by
    simp only [chkE] at h
    split at h
    · obtain ⟨h, h4⟩ := and2 h
      obtain ⟨h, h3⟩ := and2 h
      obtain ⟨h1, h2⟩ := and2 h
      rw [of_decide_eq_true h1] at h2 ⊢
      obtain ⟨r, ho, ok⟩ := okC g.room o
      exact ⟨se_cmpLL ho ok (sL l g h3) (sL m g h4) (nott h2), fun _ => st_cmpLL ho ok (sL l g h3) (sL m g h4) (nott h2)⟩
    · cases h
theorem sEs : ∀ (es : IEs) {sc : List (Str × NameKind)} {df : Bool} {X : Cx} {xs : List Expr}, Good T rec N sc df X → chkEs T N sc df es xs = true → PA X xs (LA X.K (evs rec noX es)) ∧ xs.all notStar = true
  | .nil, sc, df, X, xs, g, h => by
    simp only [chkEs] at h
    split at h
    · exact ⟨sa_nil, rfl⟩
    · cases h
  | .cons a r, sc, df, X, xs, g, h => by
    simp only [chkEs] at h
    split at h
    · obtain ⟨h, h3⟩ := and2 h
      obtain ⟨h1, h2⟩ := and2 h
      obtain ⟨q1, q2⟩ := sEs r g h3
      exact ⟨sa_cons (sE a g h2).1 q1 h1, by rw [List.all_cons, h1, q2]; rfl⟩
    · cases h
theorem sAnd : ∀ (es : IEs) {sc : List (Str × NameKind)} {df : Bool} {X : Cx} {xs : List Expr}, Good T rec N sc df X → chkEs T N sc df es xs = true →
    (∀ pos, SV (smAnd rec noX es) X (.BoolOp .And xs pos)) ∧ (okTs T N es xs = true → ∀ pos, PW X (.BoolOp .And xs pos) (LT X.K (smAnd rec noX es).t))
  | .nil, sc, df, X, xs, g, h => ⟨fun pos => se_false, fun _ pos => sw_false⟩
  | .cons a .nil, sc, df, X, xs, g, h => by
    simp only [chkEs] at h
    split at h
    · rename_i x ys
      obtain ⟨h, h3⟩ := and2 h
      obtain ⟨h1, h2⟩ := and2 h
      cases ys with
      | cons _ _ => simp only [chkEs] at h3; cases h3
      | nil =>
        obtain ⟨q1, q2⟩ := sE a g h2
        exact ⟨fun pos => se_and1 q1, fun t pos => pw_and1 (q2 (by simp only [okTs] at t; exact (and2 t).1))⟩
    · cases h
  | .cons a (.cons b r), sc, df, X, xs, g, h => by
    simp only [chkEs] at h
    split at h
    · rename_i x ys
      obtain ⟨h, h3⟩ := and2 h
      obtain ⟨h1, h2⟩ := and2 h
      cases ys with
      | nil => cases h3
      | cons y zs =>
        obtain ⟨q1, q2⟩ := sE a g h2
        obtain ⟨p1, p2⟩ := sAnd (.cons b r) g (xs := y :: zs) (by simp only [chkEs]; exact h3)
        exact ⟨fun pos => se_and q1 (p1 pos), fun t pos => by
          simp only [okTs] at t
          exact st_and (q2 (and2 t).1) (p2 (by simp only [okTs]; exact (and2 t).2) pos)⟩
    · cases h
theorem sOr : ∀ (es : IEs) {sc : List (Str × NameKind)} {df : Bool} {X : Cx} {xs : List Expr}, Good T rec N sc df X → chkEs T N sc df es xs = true →
    (∀ pos, SV (smOr rec noX es) X (.BoolOp .Or xs pos)) ∧ (okTs T N es xs = true → ∀ pos, PW X (.BoolOp .Or xs pos) (LT X.K (smOr rec noX es).t))
  | .nil, sc, df, X, xs, g, h => ⟨fun pos => se_false, fun _ pos => sw_false⟩
  | .cons a .nil, sc, df, X, xs, g, h => by
    simp only [chkEs] at h
    split at h
    · rename_i x ys
      obtain ⟨h, h3⟩ := and2 h
      obtain ⟨h1, h2⟩ := and2 h
      cases ys with
      | cons _ _ => simp only [chkEs] at h3; cases h3
      | nil =>
        obtain ⟨q1, q2⟩ := sE a g h2
        exact ⟨fun pos => se_and1 q1, fun t pos => pw_or1 (q2 (by simp only [okTs] at t; exact (and2 t).1))⟩
    · cases h
  | .cons a (.cons b r), sc, df, X, xs, g, h => by
    simp only [chkEs] at h
    split at h
    · rename_i x ys
      obtain ⟨h, h3⟩ := and2 h
      obtain ⟨h1, h2⟩ := and2 h
      cases ys with
      | nil => cases h3
      | cons y zs =>
        obtain ⟨q1, q2⟩ := sE a g h2
        obtain ⟨p1, p2⟩ := sOr (.cons b r) g (xs := y :: zs) (by simp only [chkEs]; exact h3)
        exact ⟨fun pos => se_or q1 (p1 pos), fun t pos => by
          simp only [okTs] at t
          exact st_or (q2 (and2 t).1) (p2 (by simp only [okTs]; exact (and2 t).2) pos)⟩
    · cases h
theorem sP : ∀ (p : IP) {sc : List (Str × NameKind)} {df : Bool} {X : Cx} {e : Option Expr}, Good T rec N sc df X → chkP T N sc df p e = true → PO X e (LO X.K (evPart rec noX p))
  | .no, sc, df, X, e, g, h => by
    simp only [chkP] at h
    split at h
    · exact so_none
    · cases h
  | .ex a, sc, df, X, e, g, h => by
    simp only [chkP] at h
    split at h
    · exact so_some (sE a g h).1
    · cases h
theorem sL : ∀ (l : IL) {sc : List (Str × NameKind)} {df : Bool} {X : Cx} {e : Expr}, Good T rec N sc df X → chkL T N sc df l e = true → PE X e (LL X.K (evl rec noX l))
  | .disp es, sc, df, X, e, g, h => by
    simp only [chkL] at h
    split at h
    · exact sl_disp (sEs es g h).1
    · cases h
  | .comp vs tg wk cs elt, sc, df, X, e, g, h => by
    simp only [chkL] at h
    split at h
    · rename_i x t it ifs a scope pos
      obtain ⟨h, h7⟩ := and2 h
      obtain ⟨h, h6⟩ := and2 h
      obtain ⟨h, h5⟩ := and2 h
      obtain ⟨h, h4⟩ := and2 h
      obtain ⟨h, h3⟩ := and2 h
      obtain ⟨h1, h2⟩ := and2 h
      rw [of_decide_eq_true h1]
      have q := sl_comp (pos := pos) g.calm g.ndx (sW (tg := _) wk g h4) (g.blkOk h2) (fun s H C cl fp => by rw [ownOf_snd]; exact sGc tg (g.blk h2 s H C cl fp) h5)
        (fun s H C cl fp => sTs cs (g.blk h2 s H C cl fp) h6) (fun s H C cl fp => (sE elt (g.blk h2 s H C cl fp) h7).1) (noSet h3)
      rw [ownOf_snd] at q
      exact q
    · cases h
theorem sKV : ∀ (ps : IKs) (pos : Pos) {sc : List (Str × NameKind)} {df : Bool} {X : Cx} {ks : List (Option Expr)} {vs : List Expr}, Good T rec N sc df X → chkKV T N sc df ps ks vs = true → LKV X pos ks vs (evKV rec noX ps) ∧ ks.all (·.isSome) = true ∧ ks.length = vs.length
  | .nil, pos, sc, df, X, ks, vs, g, h => by
    simp only [chkKV] at h
    obtain ⟨h1, h2⟩ := and2 h
    cases ks with
    | cons _ _ => cases h1
    | nil =>
      cases vs with
      | cons _ _ => cases h2
      | nil => exact ⟨lkv_nil, rfl, rfl⟩
  | .cons k v r, pos, sc, df, X, ks, vs, g, h => by
    simp only [chkKV] at h
    split at h
    · obtain ⟨h, h3⟩ := and2 h
      obtain ⟨h1, h2⟩ := and2 h
      obtain ⟨q, qa, ql⟩ := sKV r pos g h3
      exact ⟨lkv_cons (sE k g h1).1 (sE v g h2).1 q, by rw [List.all_cons, qa]; rfl, by rw [List.length_cons, List.length_cons, ql]⟩
    · cases h
theorem sTs : ∀ (cs : IEs) {sc : List (Str × NameKind)} {X : Cx} {ifs : List Expr}, Good T rec N sc false X → chkTs T N sc cs ifs = true → PTs X ifs (LT X.K (evTests rec noX cs))
  | .nil, sc, X, ifs, g, h => by
    simp only [chkTs] at h
    split at h
    · exact sts_nil
    · cases h
  | .cons c r, sc, X, ifs, g, h => by
    simp only [chkTs] at h
    split at h
    · obtain ⟨h, h3⟩ := and2 h
      obtain ⟨h1, h2⟩ := and2 h
      exact sts_one ((sE c g h2).2 h3)
    · cases h
theorem sW : ∀ (wk : IW) {sc : List (Str × NameKind)} {df : Bool} {X : Cx} {tg e : Expr}, Good T rec N sc df X → chkW T N sc df wk e = true → PI X tg e (LI X.K (evw rec noX wk))
  | .seq a, sc, df, X, tg, e, g, h => by
    simp only [chkW] at h
    exact si_seq (sE a g h).1
  | .seql l, sc, df, X, tg, e, g, h => by
    simp only [chkW] at h
    exact si_seql (sL l g h)
  | .rng1 a, sc, df, X, tg, e, g, h => by
    simp only [chkW] at h
    split at h
    · obtain ⟨h, h5⟩ := and2 h
      obtain ⟨h, h4⟩ := and2 h
      obtain ⟨h, h3⟩ := and2 h
      obtain ⟨h1, h2⟩ := and2 h
      have ex := of_decide_eq_true h1
      subst ex
      exact si_rng1 (g.glo h2) (g.blt h3) (sE a g h5).1 h4
    · cases h
  | .rng2 a b, sc, df, X, tg, e, g, h => by
    simp only [chkW] at h
    split at h
    · obtain ⟨h, h7⟩ := and2 h
      obtain ⟨h, h6⟩ := and2 h
      obtain ⟨h, h5⟩ := and2 h
      obtain ⟨h, h4⟩ := and2 h
      obtain ⟨h, h3⟩ := and2 h
      obtain ⟨h1, h2⟩ := and2 h
      have ex := of_decide_eq_true h1
      subst ex
      exact si_rng2 (g.glo h2) (g.blt h3) (sE a g h6).1 (sE b g h7).1 h4 h5
    · cases h
theorem sG : ∀ (t : IG) {sc : List (Str × NameKind)} {df : Bool} {X : Cx} {e : Expr}, Good T rec N sc df X → chkG T N sc df t e = true → PG X e (LG X.K (evg rec noX t))
  | .nm i, sc, df, X, e, g, h => by
    simp only [chkG] at h
    split at h
    · obtain ⟨h1, h2⟩ := and2 h
      obtain ⟨q1, q2⟩ := g.sto h2
      exact sg_name g.ndx (g.at_ h1) q1 q2
    · cases h
  | .tp ts, sc, df, X, e, g, h => by
    simp only [chkG] at h
    split at h
    · rename_i xs k pos
      obtain ⟨h1, h2⟩ := and2 h
      have q := sg_tup (k := k) (pos := pos) g.calm (sGs ts g h2) (each_len h1) (each_nost h1)
      rw [← lenG_of ts h2] at q
      exact q
    · cases h
  | .sub a i, sc, df, X, e, g, h => by
    simp only [chkG] at h
    split at h
    · obtain ⟨h, h3⟩ := and2 h
      obtain ⟨h1, h2⟩ := and2 h
      exact sg_sub g.room (sE a g h2).1 (sE i g h3).1 (sub_of h1)
    · cases h
theorem sGs : ∀ (ts : IGs) {sc : List (Str × NameKind)} {df : Bool} {X : Cx} {xs : List Expr}, Good T rec N sc df X → chkGs T N sc df ts xs = true → PGs X xs (LGs X.K (evgs rec noX ts))
  | .nil, sc, df, X, xs, g, h => by
    simp only [chkGs] at h
    split at h
    · exact sgs_nil
    · cases h
  | .cons t r, sc, df, X, xs, g, h => by
    simp only [chkGs] at h
    split at h
    · obtain ⟨h, h3⟩ := and2 h
      obtain ⟨h1, h2⟩ := and2 h
      exact sgs_cons (sG t g h2) (sGs r g h3) (each_cons h1)
    · cases h
theorem sGc : ∀ (t : IG) {sc : List (Str × NameKind)} {vs : List Nat} {X : Cx} {e : Expr}, Good T rec N sc false X → chkGc T N sc vs t e = true → PG X e (LGc X.K vs (evg rec noX t))
  | .nm i, sc, vs, X, e, g, h => by
    simp only [chkGc] at h
    split at h
    · obtain ⟨h, h3⟩ := and2 h
      obtain ⟨h1, h2⟩ := and2 h
      have q := g.lk h2
      exact sgc_name g.ndx (g.at_ h1) (.inl q) (.inr q) (List.contains_iff_mem.mp h3)
    · cases h
  | .tp ts, sc, vs, X, e, g, h => by
    simp only [chkGc] at h
    split at h
    · rename_i xs k pos
      obtain ⟨h1, h2⟩ := and2 h
      have q := sgc_tup (k := k) (pos := pos) g.calm (sGcs ts g h2) (each_len h1) (each_nost h1)
      rw [← lenGc_of (T := T) ts h2] at q
      exact q
    · cases h
  | .sub a i, sc, vs, X, e, g, h => by simp [chkGc] at h
theorem sGcs : ∀ (ts : IGs) {sc : List (Str × NameKind)} {vs : List Nat} {X : Cx} {xs : List Expr}, Good T rec N sc false X → chkGcs T N sc vs ts xs = true → PGs X xs (LGcs X.K vs (evgs rec noX ts))
  | .nil, sc, vs, X, xs, g, h => by
    simp only [chkGcs] at h
    split at h
    · exact sgcs_nil
    · cases h
  | .cons t r, sc, vs, X, xs, g, h => by
    simp only [chkGcs] at h
    split at h
    · obtain ⟨h, h3⟩ := and2 h
      obtain ⟨h1, h2⟩ := and2 h
      exact sgcs_cons (sGc t g h2) (sGcs r g h3) (each_cons h1)
    · cases h
end
end
end PV
/-! PVL: statements, defs, the law -/
namespace PV
open PySem PySem.Spec L2
open PyProof.Rows hiding St
theorem swap_cell {X : Cx} {e : Expr} {y : Str} {py : Pos} {l : Nat} (h : X.env.scope.names.lookup y = some .cell) : (∃ elt gs scope pos, e = .ListComp elt gs scope pos) → swapsWith e (some (.Name y py)) l X.env = pure false := by
  rintro ⟨elt, gs, scope, pos, rfl⟩
  have hk : X.env.kindOf y = some .cell := h
  unfold swapsWith
  simp only [hk]
  show pure (X.env.blockKind == ScopeKind.function && (NameKind.cell == NameKind.local) && _ && _) = pure false
  rw [show (NameKind.cell == NameKind.local) = false from rfl]
  simp
def isLC : Expr → Bool | .ListComp _ _ _ _ => true | _ => false
/-- an assignment of a kind that swaps nothing -/
def plainAsg (sc : List (Str × NameKind)) (tg e : Expr) : Bool := notComp e || (isLC e && (match tg with | .Name y _ => decide (sc.lookup y = some .cell) | _ => false))
section
variable (T : Tab) (N : List Str) (sc : List (Str × NameKind))
mutual
def chkS : IS → Stmt → Bool
  | .expr e, st => match st with | .Expr x _ => notComp x && chkE T N sc true e x | _ => false
  | .asg t e, st => match st with | .Assign [tg] x _ => tgtOk tg && chkG T N sc true t tg && chkE T N sc true e x && plainAsg sc tg x && (!isTupE tg || !isTupE x) | _ => false
  | .asgl t l, st => match t, l, st with
    | .nm i, .comp vs g wk cs elt, .Assign [.Name y py] (.ListComp x [⟨tg, it, ifs, a⟩] scope pos) _ => atN N i y && locK sc y && (py.line == pos.line) && !(scope.names.any fun (n, k) => n == y && (k == .local || k == .cell)) &&
        decide (a = 0) && blkS N sc scope (ownOf N vs) && notSet it && chkW T N sc true wk it && chkGc T N scope.names vs g tg && chkTs T N scope.names cs ifs && chkE T N scope.names false elt x
    | _, _, _ => false
  | .aug i o e, st => match st with | .AugAssign (.Name x _) op y _ => decide (op = boOp o) && atN N i x && stoK true sc x && chkE T N sc true e y | _ => false
  | .ret e, st => match st with | .Return (some x) _ => chkE T N sc true e x | _ => false
  | .retN, st => match st with | .Return none _ => true | _ => false
  | .ife c a b, st => match st with | .If t xs ys _ => chkE T N sc true c t && okT T N c t && chkSs a xs && chkSs b ys | _ => false
  | .for_ t wk body, st => match st with | .For tg it xs [] _ => notSet it && chkW T N sc true wk it && chkG T N sc true t tg && chkSs body xs | _ => false
  | .forD t e body, st => match st with | .For tg it xs [] _ => notSet it && chkE T N sc true e it && chkG T N sc true t tg && chkSs body xs | _ => false
  | .whl c body, st => match st with | .While t xs [] _ => chkE T N sc true c t && okT T N c t && chkSs body xs | _ => false
  | .pass, st => match st with | .Pass _ => true | .Expr (.Constant (.str _) _ _) _ => true | _ => false
  | .brk, st => match st with | .Break _ => true | _ => false
  | .cont, st => match st with | .Continue _ => true | _ => false
  | .never, _ => true
def chkSs : ISs → List Stmt → Bool
  | .nil, xs => match xs with | [] => true | _ => false
  | .cons a r, xs => match xs with | x :: ys => chkS a x && chkSs r ys | [] => false
end
end
section
variable {T : Tab} {rec : Rec} {N : List Str} {sc : List (Str × NameKind)} {X : Cx}
mutual
theorem sS (g : Good T rec N sc true X) : ∀ (s : IS) {st : Stmt}, chkS T N sc s st = true → PS X st (LS X.K (evS rec noX s))
  | .expr e, st, h => by
    simp only [chkS] at h
    split at h
    · obtain ⟨h1, h2⟩ := and2 h
      exact ss_expr (sE e g h2).1 (noSwap h1)
    · cases h
  | .asg t e, st, h => by
    simp only [chkS] at h
    split at h
    · rename_i tg x pos
      obtain ⟨h, h5⟩ := and2 h
      obtain ⟨h, h4⟩ := and2 h
      obtain ⟨h, h3⟩ := and2 h
      obtain ⟨h1, h2⟩ := and2 h
      refine ss_asg (sE e g h3).1 (sG t g h2) ?_ (noStores ?_) (each_one h1)
      · show swapsWith x (some tg) pos.line X.env = pure false
        unfold plainAsg at h4
        rw [Bool.or_eq_true] at h4
        rcases h4 with h4 | h4
        · exact noSwap h4
        · obtain ⟨h6, h7⟩ := and2 h4
          cases tg with
          | Name y py =>
            refine swap_cell (g.cst rfl y (of_decide_eq_true h7)).1 ?_
            cases x <;> first | exact ⟨_, _, _, _, rfl⟩ | cases h6
          | _ => cases h7
      · rw [Bool.or_eq_true] at h5
        rcases h5 with h5 | h5
        · exact .inl (nott h5)
        · exact .inr (nott h5)
    · cases h
  | .asgl t l, st, h => by
    simp only [chkS] at h
    split at h
    · rename_i i vs gg wk cs elt y py x tg it ifs a scope pos spos
      obtain ⟨h, h11⟩ := and2 h
      obtain ⟨h, h10⟩ := and2 h
      obtain ⟨h, h9⟩ := and2 h
      obtain ⟨h, h8⟩ := and2 h
      obtain ⟨h, h7⟩ := and2 h
      obtain ⟨h, h6⟩ := and2 h
      obtain ⟨h, h5⟩ := and2 h
      obtain ⟨h, h4⟩ := and2 h
      obtain ⟨h, h3⟩ := and2 h
      obtain ⟨h1, h2⟩ := and2 h
      have e0 := of_decide_eq_true h5
      subst e0
      have hy := g.lk h2
      have q := ss_setLc (spos := spos) g.calm g.ndx (g.at_ h1) hy (sw_true g.kind hy h3 (nott h4)) (sW (tg := tg) wk g h8) (g.blkOk h6) (fun s H C cl fp => by rw [ownOf_snd]; exact sGc gg (g.blk h6 s H C cl fp) h9)
        (fun s H C cl fp => sTs cs (g.blk h6 s H C cl fp) h10) (fun s H C cl fp => (sE elt (g.blk h6 s H C cl fp) h11).1) (noSet h7)
      rw [ownOf_snd] at q
      exact q
    · cases h
  | .aug i o e, st, h => by
    simp only [chkS] at h
    split at h
    · obtain ⟨h, h4⟩ := and2 h
      obtain ⟨h, h3⟩ := and2 h
      obtain ⟨h1, h2⟩ := and2 h
      rw [of_decide_eq_true h1]
      obtain ⟨q1, q2⟩ := g.sto h3
      obtain ⟨r, ho, ok⟩ := okAug (X := X) o
      exact ss_aug g.ndx (g.at_ h2) q1 (sE e g h4).1 ho ok q2
    · cases h
  | .ret e, st, h => by
    simp only [chkS] at h
    split at h
    · exact ss_ret (sE e g h).1
    · cases h
  | .retN, st, h => by
    simp only [chkS] at h
    split at h
    · exact ss_retN
    · cases h
  | .ife c a b, st, h => by
    simp only [chkS] at h
    split at h
    · obtain ⟨h, h4⟩ := and2 h
      obtain ⟨h, h3⟩ := and2 h
      obtain ⟨h1, h2⟩ := and2 h
      exact ss_if ((sE c g h1).2 h2) (sSs g a h3) (sSs g b h4)
    · cases h
  | .for_ t wk body, st, h => by
    simp only [chkS] at h
    split at h
    · obtain ⟨h, h4⟩ := and2 h
      obtain ⟨h, h3⟩ := and2 h
      obtain ⟨h1, h2⟩ := and2 h
      exact ss_for g.xe g.calm (sW wk g h2) (sG t g h3) (sSs g body h4) (noSet h1)
    · cases h
  | .forD t e body, st, h => by
    simp only [chkS] at h
    split at h
    · obtain ⟨h, h4⟩ := and2 h
      obtain ⟨h, h3⟩ := and2 h
      obtain ⟨h1, h2⟩ := and2 h
      exact ss_forD g.xe g.calm (sE e g h2).1 (sG t g h3) (sSs g body h4) (noSet h1)
    · cases h
  | .whl c body, st, h => by
    simp only [chkS] at h
    split at h
    · obtain ⟨h, h3⟩ := and2 h
      obtain ⟨h1, h2⟩ := and2 h
      exact ss_while g.xe ((sE c g h1).2 h2) (sSs g body h3)
    · cases h
  | .pass, st, h => by
    simp only [chkS] at h
    split at h
    · exact ss_pass
    · exact ss_doc
    · cases h
  | .brk, st, h => by
    simp only [chkS] at h
    split at h
    · exact ss_break
    · cases h
  | .cont, st, h => by
    simp only [chkS] at h
    split at h
    · exact ss_cont
    · cases h
  | .never, st, h => ss_never
theorem sSs (g : Good T rec N sc true X) : ∀ (s : ISs) {st : List Stmt}, chkSs T N sc s st = true → PSs X st (LS X.K (evSs rec noX s))
  | .nil, st, h => by
    simp only [chkSs] at h
    split at h
    · exact sss_nil
    · cases h
  | .cons a r, st, h => by
    simp only [chkSs] at h
    split at h
    · obtain ⟨h1, h2⟩ := and2 h
      show PSs X _ (LS X.K fun D σ G => evS rec noX a { D with nx := evSs rec noX r D } σ G)
      exact sss_cons (sS g a h1) (sSs g r h2)
    · cases h
end
end

/-! ### all defs -/
structure FnAt (T : Tab) (K : PySem.W.Frag) (mg : Str → Option Value) (r : FR) : Prop where
  ex : ∃ (a : Addr) (fd : FuncData) (x qual : Str) (st : Stmt) (N ps : List Str), mg r.name = some (.ref a) ∧ Fun K x qual st a fd ∧ Binds K fd ps [] ∧ FnScope N ps (defScope st) ∧ ps.length = r.np ∧ N.length = r.ns ∧ chkSs T N (defScope st).names r.body (defBody st) = true
structure TabOk (T : Tab) (K : PySem.W.Frag) (mg : Str → Option Value) : Prop where
  fns : ∀ f r, T.fs f = some r → FnAt T K mg r
  globs : ∀ x w, T.gl.lookup x = some w → ∃ (u : Value) (v : V), mg x = some u ∧ RelV v u ∧ ∀ H, Rep K H w v
  blts : ∀ x ∈ T.bl, mg x = none
theorem sl_start {K : PySem.W.Frag} {H : Hp} {r : FR} {N : List Str} {ws : List W} {vs : List V} (rs : Reps K H ws vs) (hN : N.length = r.ns) : Sl K H (startW r ws) (L2.start N vs) := by
  have hl := rs.length
  refine ⟨?_, fun i w e => ?_⟩
  · unfold startW L2.start
    rw [List.length_append, List.length_append, List.length_map, List.length_map, List.length_replicate, List.length_replicate, hl, hN]
  · unfold startW at e
    by_cases hi : i < ws.length
    · rw [List.getElem?_append_left (by rw [List.length_map]; exact hi), List.getElem?_map] at e
      cases q : ws[i]? with
      | none => rw [q] at e; cases e
      | some u =>
        rw [q] at e
        have e2 : u = w := Option.some.inj (Option.some.inj e)
        subst e2
        obtain ⟨v, h1, h2⟩ := rs.get q
        refine ⟨v, ?_, h2⟩
        unfold L2.start
        rw [List.getElem?_append_left (by rw [List.length_map, ← hl]; exact hi), List.getElem?_map, h1]
        rfl
    · rw [List.getElem?_append_right (by rw [List.length_map]; omega), List.getElem?_replicate] at e
      split at e <;> cases e
theorem step_ok {T : Tab} {P : Program} {w : World} {K : PySem.W.Frag} {mg : Str → Option Value} {base : Heap} {k : Nat} (ih : SigOk T (evF T.fs k) k P w K mg base) {f : Nat} {r : FR} (hf : T.fs f = some r) {a : Addr} {fd : FuncData} {x qual : Str} {st : Stmt} {N ps : List Str}
    (F : Fun K x qual st a fd) (S : FnScope N ps (defScope st)) (h2 : ps.length = r.np) (h3 : N.length = r.ns) (h4 : chkSs T N (defScope st).names r.body (defBody st) = true) : FnOk P w K mg base CX0 (k + 1) a fd ps (spW K r.np (evF T.fs (k + 1) f)) := by
  refine F.ok S (fun vs H Q E h => by rw [h.1, h2]) fun cdv A outer s H vs Q E hr h => ?_
  obtain ⟨hl, ws, G, Qw, rs, rh, q, kt⟩ := h
  obtain ⟨r', e, q1, q2⟩ := onS_of q
  rw [hf] at e; cases e
  have gd : Good T (evF T.fs k) N (defScope st).names true (cxOf CX0 P w K mg base N qual (defScope st) a cdv A outer s H E).nox :=
    ⟨rfl, S.nd, S.kind, fun x e => e, fun x e => e, fun _ x e => ⟨e, rfl⟩, fun x e => e, rfl, ⟨k, hr, ih⟩, rfl⟩
  refine ⟨_, sSs gd r.body h4, startW r ws, G, _, sl_start rs h3, rh, q2, ?_⟩
  refine ⟨fun σw G' σ H' ⟨G1, sb, q⟩ st sl => kt _ _ _ _ q (st.less sb) .non, fun w G' v H' ⟨G1, sb, q⟩ st r => kt _ _ _ _ q (st.less sb) r, fun σw G' σ H' q st sl => q.elim, fun σw G' σ H' q st sl => q.elim⟩
theorem sig_all {T : Tab} {P : Program} {w : World} {K : PySem.W.Frag} {mg : Str → Option Value} {base : Heap} (ok : TabOk T K mg) : ∀ k, SigOk T (evF T.fs k) k P w K mg base
  | 0 => by
    refine ⟨fun f r hf => ?_, fun f r ws G Q E hf h => h.elim, ok.globs, ok.blts⟩
    obtain ⟨a, fd, x, qual, st, N, ps, h1, F, b, S, h2, h3, h4⟩ := (ok.fns f r hf).ex
    exact ⟨a, fd, ps, h1, F.kp, b, ⟨fun vs H Q E h => by rw [h.1, h2], fun A outer s H args us vs Q E hr he hb hv h => by
      obtain ⟨_, ws, G, Qw, _, _, q, _⟩ := h
      exact q.elim⟩⟩
  | k + 1 => by
    have ih := sig_all (P := P) (w := w) (base := base) ok k
    refine ⟨fun f r hf => ?_, fun f r ws G Q E hf h => ?_, ok.globs, ok.blts⟩
    · obtain ⟨a, fd, x, qual, st, N, ps, h1, F, b, S, h2, h3, h4⟩ := (ok.fns f r hf).ex
      exact ⟨a, fd, ps, h1, F.kp, b, step_ok ih hf F S h2 h3 h4⟩
    · obtain ⟨r', e, q1, q2⟩ := onS_of h
      rw [hf] at e; cases e
      exact q1
/-- the script as a value -/
def scriptW (ns : List Int) : W := .clst (ns.map .int)
theorem reps_ints {K : PySem.W.Frag} {H : Hp} : ∀ ns : List Int, Reps K H (ns.map .int) (ns.map V.int)
  | [] => .nil
  | n :: ns => .cons (.int n) (reps_ints ns)
theorem law_sp {K : PySem.W.Frag} {rf : List W → GH → QW → (Exn → GH → Prop) → Prop} {H : Hp} {a : Addr} {ns : List Int} (h : rf [scriptW ns] (fun _ => none) (fun w _ => w = .bl true) fun _ _ => False) (ho : Only H) (hs : SqL K H a (ns.map V.int)) :
    spW K 1 rf [.ref a] H (fun v _ => v = .bl true) fun _ _ _ => False := by
  have fz : FzL K H a (ns.map V.int) := by
    rcases hs with (hs | hs) | hs
    · rcases ho a with z | ⟨o, xs, z⟩
      · rw [z] at hs; cases hs
      · rw [z] at hs; cases hs
    · exact .inl hs
    · exact .inr hs
  refine ⟨rfl, [scriptW ns], fun _ => none, _, .cons (.clst fz (reps_ints ns)) .nil, fun a o e => (by cases e), h, fun w G' v H' q st r => ?_⟩
  subst q
  cases r; rfl
/-! ### facts of the head -/
theorem fns_of {T : Tab} {K : PySem.W.Frag} {mg : Str → Option Value} {tbl : List (Nat × FR)} (e : T.fs = fun f => tbl.lookup f) (h : ∀ p ∈ tbl, FnAt T K mg p.2) : ∀ f r, T.fs f = some r → FnAt T K mg r := by
  intro f r hf
  rw [e] at hf
  have : ∀ tbl : List (Nat × FR), tbl.lookup f = some r → (f, r) ∈ tbl := fun tbl => by
    induction tbl with
    | nil => intro h; cases h
    | cons p tbl ih =>
      obtain ⟨a, b⟩ := p
      intro h
      rw [List.lookup_cons] at h
      split at h
      · rename_i q
        cases h
        rw [eq_of_beq q]
        exact List.mem_cons_self
      · exact List.mem_cons_of_mem _ (ih h)
  exact h _ (this tbl hf)
/-- what a module's constant is -/
def GlbAt (K : PySem.W.Frag) (mg : Str → Option Value) (x : Str) (w : W) : Prop := ∃ (u : Value) (v : V), mg x = some u ∧ RelV v u ∧ ∀ H, Rep K H w v
theorem glbs_of {K : PySem.W.Frag} {mg : Str → Option Value} {gl : List (Str × W)} (h : ∀ p ∈ gl, GlbAt K mg p.1 p.2) : ∀ x w, gl.lookup x = some w → ∃ (u : Value) (v : V), mg x = some u ∧ RelV v u ∧ ∀ H, Rep K H w v := by
  intro x w hl
  have : ∀ gl : List (Str × W), gl.lookup x = some w → (x, w) ∈ gl := fun gl => by
    induction gl with
    | nil => intro h; cases h
    | cons p gl ih =>
      obtain ⟨a, b⟩ := p
      intro h
      rw [List.lookup_cons] at h
      split at h
      · rename_i q
        cases h
        rw [eq_of_beq q]
        exact List.mem_cons_self
      · exact List.mem_cons_of_mem _ (ih h)
  exact h _ (this gl hl)
theorem glb_int {K : PySem.W.Frag} {h : Heap} {mg : Str → Option Value} (X : K.In h) (G : h.Ns mainGlobals mg) {x : Str} {i : Int} {t : Tok} (a : PySem.W.nsIn K mainGlobals x = some (some (.int i t))) : GlbAt K mg x (.int i) :=
  ⟨_, .int i, PySem.W.mg_of X G a, ⟨t, rfl⟩, fun H => .int i⟩
theorem glb_str {K : PySem.W.Frag} {h : Heap} {mg : Str → Option Value} (X : K.In h) (G : h.Ns mainGlobals mg) {x i : Str} {t : Tok} (a : PySem.W.nsIn K mainGlobals x = some (some (.str i t))) : GlbAt K mg x (.str i) :=
  ⟨_, .str i, PySem.W.mg_of X G a, ⟨t, rfl⟩, fun H => .str i⟩
theorem reps_strs {K : PySem.W.Frag} {H : Hp} : ∀ ns : List Str, Reps K H (ns.map .str) (ns.map V.str)
  | [] => .nil
  | n :: ns => .cons (.str n) (reps_strs ns)
theorem glb_strs {K : PySem.W.Frag} {h : Heap} {mg : Str → Option Value} (X : K.In h) (G : h.Ns mainGlobals mg) {x : Str} {p : Addr} {od : Option Addr} {its : Array Value} {n : Nat} {sl : Array (Option Value)} {ns : List Str} (a : PySem.W.nsIn K mainGlobals x = some (some (.ref p)))
    (l : K.lookup p = some ⟨.type "tuple", od, .seq its n, sl⟩) (hs : its.size ≤ 1000) (hv : Vals (ns.map V.str) its.toList) : GlbAt K mg x (.tup (ns.map .str)) :=
  ⟨_, .ref p, PySem.W.mg_of X G a, rfl, fun H => .tup (.inr ⟨_, its, n, l, rfl, rfl, Nat.le_trans hs (by rw [sizeLine_eq]; decide), hv⟩) (reps_strs ns)⟩
end PV
/-! PVM: rules for the mathematics -/
namespace PV
open PySem PySem.Spec L2
open PyProof.Rows hiding St
local macro_rules | `(tactic| walk_at "go") => `(tactic| (conv => whnf))

/-! ### loops -/
theorem forW_ind {still : GH → Prop} {tg : Step1} {body : WEnds → Sw → GH → Prop} {D : WEnds} (I : List W → Sw → GH → Prop)
    (hs : ∀ x r σ G (N : Sw → GH → Prop), I (x :: r) σ G → (∀ σ' G', I r σ' G' → N σ' G') → still G ∧ tg x σ G fun σ1 G1 => body { D with nx := N, ct := N, bk := D.nx } σ1 G1)
    (he : ∀ σ G, I [] σ G → still G ∧ D.nx σ G) : ∀ (xs : List W) (σ : Sw) (G : GH), I xs σ G → forW still tg body D xs σ G
  | [], σ, G, h => by rw [forW_nil]; exact he σ G h
  | x :: r, σ, G, h => by rw [forW_cons]; exact hs x r σ G _ h (fun σ' G' h' => forW_ind I hs he r σ' G' h')
theorem compW_ind {still : GH → Prop} {tg : Step1} {test : Sw → GH → (Bool → GH → Prop) → Prop} {elt : Sw → GH → QW → Prop} {Q : List W → GH → Prop} {σ : Sw} (I : List W → List W → GH → Prop)
    (hs : ∀ x r acc G (N : List W → GH → Prop), I (x :: r) acc G → (∀ acc' G', I r acc' G' → N acc' G') → still G ∧ tg x σ G fun σ1 G1 => test σ1 G1 fun c G2 => brn c
      (elt σ1 G2 fun w G3 => acc.length < sizeLine ∧ N (acc ++ [w]) G3) (N acc G2))
    (he : ∀ acc G, I [] acc G → still G ∧ Q acc G) : ∀ (xs acc : List W) (G : GH), I xs acc G → compW still tg test elt Q σ xs acc G
  | [], acc, G, h => by rw [compW_nil]; exact he acc G h
  | x :: r, acc, G, h => by rw [compW_cons]; exact hs x r acc G (fun acc G => compW still tg test elt Q σ r acc G) h (fun acc' G' h' => compW_ind I hs he r acc' G' h')
theorem forW_c {still : GH → Prop} {tg : Step1} {body : WEnds → Sw → GH → Prop} {D : WEnds} {σ : Sw} {G : GH} {x : W} {r : List W} (h : still G ∧ tg x σ G fun σ1 G1 => body { D with nx := forW still tg body D r, ct := forW still tg body D r, bk := D.nx } σ1 G1) : forW still tg body D (x :: r) σ G := by rw [forW_cons]; exact h
theorem forW_n {still : GH → Prop} {tg : Step1} {body : WEnds → Sw → GH → Prop} {D : WEnds} {σ : Sw} {G : GH} (h : still G ∧ D.nx σ G) : forW still tg body D [] σ G := by rw [forW_nil]; exact h
theorem length_rngW {lo : Int} {n : Nat} : (rngW lo n).length = n := by unfold rngW; rw [List.length_map, List.length_range]

theorem brn_nd {p P R : Prop} [Decidable p] (h1 : ¬ p → P) (h2 : p → R) : brn (!decide p) P R := by
  by_cases h : p
  · rw [decide_eq_true h]; exact h2 h
  · rw [decide_eq_false h]; exact h1 h
theorem brn_n {c : Bool} {P R : Prop} (h1 : c = false → P) (h2 : c = true → R) : brn (!c) P R := by
  cases c
  · exact h1 rfl
  · exact h2 rfl
/-- two branches that meet again -/
theorem brn_cut {c : Bool} {rec : Rec} {ex : QX} {a b : ISs} {D : WEnds} {σ : Sw} {G : GH} (I : Sw → GH → Prop) (ha : c = true → ∀ R : Sw → GH → Prop, (∀ σ G, I σ G → R σ G) → evSs rec ex a { D with nx := R } σ G)
    (hb : c = false → ∀ R : Sw → GH → Prop, (∀ σ G, I σ G → R σ G) → evSs rec ex b { D with nx := R } σ G) (hR : ∀ σ G, I σ G → D.nx σ G) : brn c (evSs rec ex a D σ G) (evSs rec ex b D σ G) := by
  cases c
  · exact hb rfl D.nx hR
  · exact ha rfl D.nx hR
theorem brn_dcut {p : Prop} [Decidable p] {rec : Rec} {ex : QX} {a b : ISs} {D : WEnds} {σ : Sw} {G : GH} (I : Sw → GH → Prop) (ha : p → ∀ R : Sw → GH → Prop, (∀ σ G, I σ G → R σ G) → evSs rec ex a { D with nx := R } σ G)
    (hb : ¬ p → ∀ R : Sw → GH → Prop, (∀ σ G, I σ G → R σ G) → evSs rec ex b { D with nx := R } σ G) (hR : ∀ σ G, I σ G → D.nx σ G) : brn (decide p) (evSs rec ex a D σ G) (evSs rec ex b D σ G) :=
  brn_cut I (fun h => ha (of_decide_eq_true h)) (fun h => hb (of_decide_eq_false h)) hR
/-! ### places -/
theorem ixL_some {ws : List W} {i : Int} (h0 : 0 ≤ i) (h1 : i < ws.length) : ∃ w ∈ ws, ixL ws i = some w := by
  match i, h0 with
  | .ofNat n, _ =>
    have hn : n < ws.length := by
      have : ((n : Nat) : Int) < ws.length := h1
      omega
    exact ⟨ws[n], List.getElem_mem hn, List.getElem?_eq_getElem hn⟩
theorem ixL_all {ws : List W} {i : Int} {P : W → Prop} (h0 : 0 ≤ i) (h1 : i < ws.length) (h : ∀ w ∈ ws, P w) : onS (ixL ws i) P := by
  obtain ⟨w, m, e⟩ := ixL_some h0 h1
  exact onS_i e (h w m)
theorem ixS_all {z : Str} {i : Int} {P : Str → Prop} (h0 : 0 ≤ i) (h1 : i < z.length) (h : ∀ c ∈ z.cps.toList, P ⟨#[c]⟩) : onS (ixS z i) P := by
  match i, h0 with
  | .ofNat n, _ =>
    have hn : n < z.cps.toList.length := by
      have : ((n : Nat) : Int) < z.length := h1
      have e : z.length = z.cps.toList.length := by unfold Str.length; rw [Array.length_toList]
      omega
    refine onS_i (x := ⟨#[z.cps.toList[n]]⟩) ?_ (h _ (List.getElem_mem hn))
    unfold ixS
    show Option.map _ (z.cps.toList[n]?) = _
    rw [List.getElem?_eq_getElem hn]
    rfl
theorem modLt {n m : Int} (h : 0 < m) : 0 ≤ n % m ∧ n % m < m := ⟨Int.emod_nonneg _ (by omega), Int.emod_lt_of_pos _ h⟩

/-! ### texts -/
theorem str_ext {x y : Str} (h : x.cps.toList = y.cps.toList) : x = y := by
  cases x; cases y
  exact congrArg Str.mk (Array.ext' h)
theorem len_toList (x : Str) : x.cps.toList.length = x.length := by unfold Str.length; rw [Array.length_toList]
theorem toList_app (x y : Str) : (x ++ y).cps.toList = x.cps.toList ++ y.cps.toList := by
  show (x.cps ++ y.cps).toList = _
  rw [Array.toList_append]
theorem len_app (x y : Str) : (x ++ y).length = x.length + y.length := by rw [← len_toList, toList_app, List.length_append, len_toList, len_toList]
theorem cutL_len {α : Type} (xs : List α) (lo hi : Option Int) : (cutL xs lo hi).length ≤ xs.length := by
  unfold cutL
  rw [List.length_take, List.length_drop]
  omega
theorem cutL_mem {α : Type} {xs : List α} {lo hi : Option Int} {x : α} (h : x ∈ cutL xs lo hi) : x ∈ xs := List.mem_of_mem_drop (List.mem_of_mem_take h)
theorem len_mk (xs : List Nat) : (Str.mk xs.toArray).length = xs.length := by unfold Str.length; simp
/-- a short text of plain signs -/
def Shrt (n : Nat) (x : Str) : Prop := x.length ≤ n ∧ ∀ c ∈ x.cps.toList, c < 128
theorem Shrt.app {n m : Nat} {x y : Str} (a : Shrt n x) (b : Shrt m y) : Shrt (n + m) (x ++ y) := ⟨by rw [len_app]; have := a.1; have := b.1; omega, fun c hc => by
  rw [toList_app, List.mem_append] at hc
  exact hc.elim (a.2 c) (b.2 c)⟩
theorem Shrt.mono {n m : Nat} {x : Str} (a : Shrt n x) (h : n ≤ m) : Shrt m x := ⟨Nat.le_trans a.1 h, a.2⟩
theorem Shrt.cut {n : Nat} {x : Str} (a : Shrt n x) (lo hi : Option Int) : Shrt n ⟨(cutL x.cps.toList lo hi).toArray⟩ := ⟨by
    rw [len_mk]
    have := cutL_len x.cps.toList lo hi
    rw [len_toList] at this
    exact Nat.le_trans this a.1, fun c hc => a.2 c (cutL_mem (by simpa using hc))⟩
theorem shrt_sign {c : Nat} (h : c < 128) : Shrt 1 ⟨#[c]⟩ := ⟨Nat.le_refl _, fun d hd => by
  simp at hd; subst hd; exact h⟩
theorem Shrt.ok {n : Nat} {x : Str} (a : Shrt n x) : PyData.strOk x = true := by
  unfold PyData.strOk
  rw [Array.all_eq_true_iff_forall_mem]
  intro c hc
  have := a.2 c (Array.mem_def.mp hc)
  exact decide_eq_true (by omega)
theorem sizeL {n : Nat} (h : n ≤ 100000) : n ≤ sizeLine := Nat.le_trans h (by rw [sizeLine_eq]; decide)
theorem Shrt.sz {n : Nat} {x : Str} (a : Shrt n x) (h : n ≤ 100000 := by decide) : x.length ≤ sizeLine := sizeL (Nat.le_trans a.1 h)
theorem Shrt.sz1 {n : Nat} {x : Str} (a : Shrt (8 - n) x) : x.length ≤ sizeLine := sizeL (Nat.le_trans a.1 (by omega))
def shrtB (n : Nat) (x : Str) : Bool := decide (x.length ≤ n) && x.cps.toList.all fun c => decide (c < 128)
theorem shrt_lit {n : Nat} {x : Str} (h : shrtB n x = true) : Shrt n x := by
  unfold shrtB at h
  rw [Bool.and_eq_true, List.all_eq_true] at h
  exact ⟨of_decide_eq_true h.1, fun c hc => of_decide_eq_true (h.2 c hc)⟩
theorem fit {n m : Nat} {x y : Str} (a : Shrt n x) (b : Shrt m y) (h : n + m ≤ 100000 := by decide) : x.length + y.length ≤ sizeLine := sizeL (Nat.le_trans (Nat.add_le_add a.1 b.1) h)
/-- nothing is left when all signs go -/
theorem strip_all {x y : Str} : decide (Txt.stripChars x y = (⟨#[]⟩ : Str)) = x.cps.toList.all fun c => y.cps.contains c := by
  have hl (xs : List Nat) (p : Nat → Bool) (h : xs.all p = false) : ∃ a c b, xs = a ++ c :: b ∧ a.all p = true ∧ p c = false := by
    induction xs with
    | nil => cases h
    | cons d r ih =>
      cases hd : p d
      · exact ⟨[], d, r, rfl, rfl, hd⟩
      · rw [List.all_cons, hd] at h
        obtain ⟨a, c, b, e, h1, h2⟩ := ih h
        exact ⟨d :: a, c, b, by rw [e]; rfl, by rw [List.all_cons, hd, h1]; rfl, h2⟩
  have htk (a r : List Nat) (c : Nat) (p : Nat → Bool) (h1 : a.all p = true) (h2 : p c = false) : (a ++ c :: r).takeWhile p = a := by
    induction a with
    | nil => simp [List.takeWhile, h2]
    | cons d s ih =>
      rw [List.all_cons, Bool.and_eq_true] at h1
      rw [List.cons_append, List.takeWhile_cons, h1.1]
      simp only [if_true]
      rw [ih h1.2]
  have hall (a : List Nat) (p : Nat → Bool) (h1 : a.all p = true) : a.takeWhile p = a := by
    induction a with
    | nil => rfl
    | cons d s ih =>
      rw [List.all_cons, Bool.and_eq_true] at h1
      rw [List.takeWhile_cons, h1.1]
      simp only [if_true]
      rw [ih h1.2]
  unfold Txt.stripChars
  rw [PySem.W.stripBy_eq]
  cases h : x.cps.toList.all fun c => y.cps.contains c
  · refine decide_eq_false fun e => ?_
    obtain ⟨a, c, b, ex, ha, hc⟩ := hl _ _ h
    have hb := congrArg (fun z : Str => z.cps.toList) e
    simp only [PySem.W.stripped, Builtin.Str.strSub, Array.toList_extract, List.extract_eq_drop_take, if_true] at hb
    have hp : (x.cps.toList.takeWhile y.cps.contains).length = a.length := by rw [ex, htk _ _ _ _ ha hc]
    rw [hp] at hb
    have hx : x.length = a.length + (b.length + 1) := by rw [← len_toList, ex]; simp
    have hd : x.cps.toList.drop a.length = c :: b := by rw [ex]; simp
    rw [hd] at hb
    have hr : ((c :: b).reverse.takeWhile y.cps.contains).length ≤ b.length := by
      rw [List.reverse_cons]
      cases hq : b.reverse.all y.cps.contains
      · obtain ⟨a2, c2, b2, e2, h2, h3⟩ := hl _ _ hq
        rw [e2, List.append_assoc, List.cons_append, htk _ _ _ _ h2 h3]
        have := congrArg List.length e2
        simp at this
        omega
      · rw [htk _ _ _ _ hq hc]; simp
    have hlen := congrArg List.length hb
    rw [List.length_take] at hlen
    simp only [List.length_cons, List.length_nil] at hlen
    omega
  · refine decide_eq_true (str_ext ?_)
    have hp : (x.cps.toList.takeWhile y.cps.contains) = x.cps.toList := hall _ _ h
    simp only [PySem.W.stripped, Builtin.Str.strSub, Array.toList_extract, List.extract_eq_drop_take, if_true, hp]
    rw [List.drop_length]
    simp
theorem isDs_strs {G : GH} : ∀ ys : List Str, IsDs G (ys.map .str) (ys.map PyData.str)
  | [] => .nil
  | y :: ys => .cons (.str y) (isDs_strs ys)
theorem shaped_strs {ys : List Str} (h : ys.all PyData.strOk = true) : SeqAt.shaped (.list (ys.map PyData.str)) = true := by
  have e : PyData.canLay0 (.list (ys.map PyData.str)) = true := by
    have : PyData.canLayAll0 (ys.map .str) = ys.all PyData.strOk := by
      induction ys with
      | nil => rfl
      | cons y r ih =>
        rw [List.all_cons, Bool.and_eq_true] at h
        simp only [List.map, PyData.canLayAll0, PyData.canLay0, List.all_cons]
        rw [ih h.2]
    simp only [PyData.canLay0, this, h]
  have d : PyData.depthAll (ys.map .str) = 0 := by
    clear h e
    induction ys with
    | nil => rfl
    | cons y r ih => simp only [List.map, PyData.depthAll, PyData.depth, ih, Nat.max_self]
  unfold SeqAt.shaped
  rw [e]
  simp [PyData.depth, d]
/-- a list of texts against the empty list -/
theorem eqv_nil {ys : List Str} : PyData.eqv (.list (ys.map .str)) (.list []) = ys.isEmpty := by cases ys <;> rfl
/-- one sign against another -/
theorem sign_lt {c d : Nat} : decide (([c] : List Nat) < [d]) = decide (c < d) := by
  have : (([c] : List Nat) < [d]) ↔ c < d := by rw [List.cons_lt_cons_iff]; simp
  exact decide_eq_decide.mpr this
theorem inW_cons {x y : W} {r : List W} : inW x (y :: r) = (eqV (toV y) (toV x) || inW x r) := rfl
theorem inW_nil {x : W} : inW x [] = false := rfl
end PV
/-! PVN: the draws of a law -/
namespace PV
open PySem PySem.Spec L2
open PyProof.Rows hiding St
local macro_rules | `(tactic| walk_at "go") => `(tactic| (conv => whnf))
local macro_rules | `(tactic| walk_at "side") => `(tactic| first | assumption | exact gup_same | exact Sub.refl _ | exact trivial | exact rfl | decide | omega | exact ⟨by omega, by omega⟩ | exact .inl ⟨by omega, by omega⟩ | exact .inr ⟨by omega, by omega⟩ | exact sizeL (Nat.le_of_ble_eq_true rfl) | exact sizeL (by omega))
local macro_rules | `(tactic| walk_at "run") => `(tactic| (conv => whnf); repeat (first | (refine ⟨_, by walk_at "side", ?_⟩; conv => whnf) | (refine ⟨by walk_at "side", ?_⟩; conv => whnf)))
def rMixed : FR := ⟨"_law_mixed", 2, 3, (.cons (.asg (.nm 2) (.op .mod (.op .mul (.op .add (.var 0) (.op .mul (.int 7919) (.var 1))) (.int 48271)) (.int 2147483647))) (.cons (.ret (.op .mod (.op .mul (.var 2) (.op .add (.op .add (.var 2) (.op .mul (.int 2) (.var 1))) (.int 1))) (.int 2147483629))) .nil))⟩
def rDigits : FR := ⟨"_law_digits", 2, 5, (.cons (.asg (.nm 2) (.int 0)) (.cons (.ife (.cmp .lt (.var 1) (.bi .len (.cons (.var 0) .nil))) (.cons (.asg (.nm 2) (.ix (.var 0) (.var 1))) .nil) .nil) (.cons (.ife (.cmp .eq (.op .mod (.bi .len (.cons (.var 0) .nil)) (.int 2)) (.int 1)) (.cons (.asg (.nm 3) (.int 0)) (.cons (.for_ (.nm 4) (.rng1 (.int 12)) (.cons (.asg (.nm 3) (.op .add (.op .mul (.var 3) (.int 2147483629)) (.call 7 (.cons (.var 2) (.cons (.op .add (.op .mul (.int 100) (.var 1)) (.var 4)) .nil))))) .nil)) (.cons (.asg (.nm 2) (.var 3)) .nil))) .nil) (.cons (.ret (.ofl (.disp (.cons (.bi .abs (.cons (.var 2) .nil)) (.cons (.int 0) .nil))))) .nil))))⟩
def rNext : FR := ⟨"_law_next", 2, 3, (.cons (.asg (.nm 2) (.op .mod (.ix (.var 0) (.int 0)) (.var 1))) (.cons (.asg (.sub (.var 0) (.int 0)) (.op .fdiv (.ix (.var 0) (.int 0)) (.var 1))) (.cons (.ret (.var 2)) .nil)))⟩
/-- the drawing state stands at a -/
def Dr (G0 : GH) (a : Addr) (z : Int) (G : GH) : Prop := ∃ n : Int, G = gup G0 a (.lst [.int n, .int z])
theorem Dr.sub {G0 G : GH} {a : Addr} {z : Int} (h : Dr G0 a z G) (hs : G0 a = none) : Sub G0 G := by
  obtain ⟨n, rfl⟩ := h
  exact .gup hs
theorem ev_next {tb : Nat → Option FR} {k : Nat} (h4 : tb 4 = some rNext) {a : Addr} {m z : Int} {G0 G : GH} {Q : QW} {E} (hk : 1 ≤ k) (hG : Dr G0 a z G) (h1 : 0 < m) (h2 : m < 1073741824)
   (q : ∀ i G', 0 ≤ i → i < m → Dr G0 a z G' → Q (.int i) G') : evF tb k 4 [.ref a, .int m] G Q E := by
  obtain ⟨k, rfl⟩ : ∃ j, k = j + 1 := ⟨k - 1, by omega⟩
  obtain ⟨n, rfl⟩ := hG
  refine onS_i h4 ⟨rfl, ?_⟩
  walk_at "run"
  exact q _ _ (modLt h1).1 (modLt h1).2 ⟨_, gup_gup⟩
theorem ev_mixed {tb : Nat → Option FR} {k : Nat} (h7 : tb 7 = some rMixed) {c j : Int} {G : GH} {Q : QW} {E} (hk : 1 ≤ k) (h1 : 0 ≤ j) (h2 : j < 1000000) (q : ∀ i, Q (.int i) G) : evF tb k 7 [.int c, .int j] G Q E := by
  obtain ⟨k, rfl⟩ : ∃ j, k = j + 1 := ⟨k - 1, by omega⟩
  have h3 := modLt (n := (c + 7919 * j) * 48271) (m := 2147483647) (by decide)
  refine onS_i h7 ⟨rfl, ?_⟩
  walk_at "run"
  exact q _
theorem ev_digits {tb : Nat → Option FR} {k : Nat} (h2' : tb 2 = some rDigits) (h7 : tb 7 = some rMixed) {ns : List Int} {j : Int} {G : GH} {Q : QW} {E} (hk : 2 ≤ k) (h1 : 0 ≤ j) (h2 : j < 1000) (q : ∀ a G', G a = none → Dr G a 0 G' → Q (.ref a) G') : evF tb k 2 [scriptW ns, .int j] G Q E := by
  obtain ⟨k, rfl⟩ : ∃ j, k = j + 1 := ⟨k - 1, by omega⟩
  refine onS_i h2' ⟨rfl, ?_⟩
  walk_at "run"
  refine brn_dcut (fun σ G' => G' = G ∧ ∃ c, σ = [some (scriptW ns), some (.int j), some (.int c), none, none]) ?_ ?_ ?_
  · rintro h R hR
    walk_at "run"
    obtain ⟨w, m, e⟩ := ixL_some h1 h
    obtain ⟨i, _, rfl⟩ := List.mem_map.mp m
    refine onS_i e ?_
    walk_at "run"
    exact hR _ _ ⟨rfl, _, rfl⟩
  · rintro h R hR
    walk_at "run"
    exact hR _ _ ⟨rfl, _, rfl⟩
  · rintro σ G ⟨rfl, c, rfl⟩
    walk_at "run"
    refine brn_dcut (fun σ G' => G' = G ∧ ∃ c u v, σ = [some (scriptW ns), some (.int j), some (.int c), u, v]) ?_ ?_ ?_
    · rintro h R hR
      walk_at "run"
      refine forW_ind (fun r σ G' => G' = G ∧ (∀ w ∈ r, ∃ i : Int, w = .int i ∧ 0 ≤ i ∧ i < 12) ∧ ∃ f v, σ = [some (scriptW ns), some (.int j), some (.int c), some (.int f), v]) ?_ ?_ _ _ _ ⟨rfl, ?_, _, _, rfl⟩
      · rintro x r σ G N ⟨rfl, hr, f, v, rfl⟩ hN
        obtain ⟨i, rfl, hi, hi2⟩ := hr x List.mem_cons_self
        walk_at "run"
        refine ev_mixed h7 (by omega) (by omega) (by omega) fun i => ?_
        walk_at "run"
        exact hN _ _ ⟨rfl, fun w hw => hr w (List.mem_cons_of_mem _ hw), _, _, rfl⟩
      · rintro σ G ⟨rfl, hr, f, v, rfl⟩
        walk_at "run"
        exact hR _ _ ⟨rfl, _, _, _, rfl⟩
      · intro w hw
        obtain ⟨i, hi, rfl⟩ := List.mem_map.mp hw
        have := List.mem_range.mp hi
        have e : (12 : Int).toNat = 12 := rfl
        exact ⟨_, rfl, by omega, by omega⟩
    · rintro h R hR
      walk_at "run"
      exact hR _ _ ⟨rfl, _, _, _, rfl⟩
    · rintro σ G ⟨rfl, c, u, v, rfl⟩
      walk_at "run"
      intro p hp
      walk_at "run"
      exact q p _ hp ⟨_, rfl⟩
/-- the numbers of a range -/
theorem mem_rng {n : Nat} {w : W} (h : w ∈ rngW 0 n) : ∃ i : Int, w = .int i ∧ 0 ≤ i ∧ i < n := by
  obtain ⟨i, hi, rfl⟩ := List.mem_map.mp h
  have := List.mem_range.mp hi
  exact ⟨_, rfl, by omega, by omega⟩
/-! ### dicts -/
theorem val_put_same {κ : Type} [DecidableEq κ] {kvs : List (κ × W)} {k : κ} {v : W} : valW (putW kvs k v) k = some v := by
  unfold valW putW
  induction kvs with
  | nil => simp
  | cons p r ih =>
    by_cases h : p.1 = k
    · simp [h]
    · simp only [List.any_cons, decide_eq_false h, Bool.false_or] at ih ⊢
      split
      · rename_i q
        rw [if_pos q] at ih
        rw [List.map_cons, if_neg h, List.find?_cons, decide_eq_false h]
        exact ih
      · rename_i q
        rw [if_neg q] at ih
        rw [List.cons_append, List.find?_cons, decide_eq_false h]
        exact ih
theorem val_put_ne {κ : Type} [DecidableEq κ] {kvs : List (κ × W)} {k j : κ} {v : W} (n : j ≠ k) : valW (putW kvs k v) j = valW kvs j := by
  unfold valW putW
  have h1 : ∀ r : List (κ × W), (r.map fun kv => if kv.1 = k then (kv.1, v) else kv).find? (fun kv => decide (kv.1 = j)) = r.find? (fun kv => decide (kv.1 = j)) := by
    intro r
    induction r with
    | nil => rfl
    | cons p r ih =>
      rw [List.map_cons, List.find?_cons, List.find?_cons]
      by_cases h : p.1 = k
      · rw [if_pos h]
        have : ¬ p.1 = j := fun e => n (e.symm.trans h)
        rw [decide_eq_false this]
        exact ih
      · rw [if_neg h, ih]
  have h2 : ∀ r : List (κ × W), (r ++ [(k, v)]).find? (fun kv => decide (kv.1 = j)) = r.find? (fun kv => decide (kv.1 = j)) := by
    intro r
    rw [List.find?_append]
    cases e : r.find? (fun kv => decide (kv.1 = j)) with
    | some _ => rfl
    | none => simp [Ne.symm n]
  split
  · rw [h1]
  · rw [h2]
theorem put_nil {κ : Type} [DecidableEq κ] {k : κ} {v : W} : putW [] k v = [(k, v)] := by unfold putW; rfl
theorem put_skip {κ : Type} [DecidableEq κ] {j k : κ} {a v : W} {r : List (κ × W)} (h : j ≠ k) : putW ((j, a) :: r) k v = (j, a) :: putW r k v := by
  unfold putW
  rw [List.any_cons, decide_eq_false h, Bool.false_or]
  split
  · rw [List.map_cons, if_neg h]
  · rfl
theorem put_here {κ : Type} [DecidableEq κ] {k : κ} {a v : W} {r : List (κ × W)} (h : (r.all fun p => !decide (p.1 = k)) = true) : putW ((k, a) :: r) k v = (k, v) :: r := by
  unfold putW
  rw [List.any_cons, decide_eq_true rfl, Bool.true_or, if_pos rfl, List.map_cons, if_pos rfl]
  congr 1
  induction r with
  | nil => rfl
  | cons p r ih =>
    rw [List.all_cons, Bool.and_eq_true] at h
    have h1 : ¬ p.1 = k := fun e => by rw [decide_eq_true e] at h; cases h.1
    rw [List.map_cons, if_neg h1, ih h.2]
theorem val_here {κ : Type} [DecidableEq κ] {k : κ} {a : W} {r : List (κ × W)} : valW ((k, a) :: r) k = some a := by unfold valW; simp
theorem val_skip {κ : Type} [DecidableEq κ] {j k : κ} {a : W} {r : List (κ × W)} (h : j ≠ k) : valW ((j, a) :: r) k = valW r k := by unfold valW; simp [h]
theorem val_nil {κ : Type} [DecidableEq κ] {k : κ} : valW ([] : List (κ × W)) k = none := by unfold valW; rfl
theorem put_end {κ : Type} [DecidableEq κ] {k : κ} {v : W} : ∀ {r : List (κ × W)}, (r.all fun p => !decide (p.1 = k)) = true → putW r k v = r ++ [(k, v)]
  | [], _ => put_nil
  | p :: r, h => by
    rw [List.all_cons, Bool.and_eq_true] at h
    have h1 : p.1 ≠ k := fun e => by rw [decide_eq_true e] at h; cases h.1
    rw [put_skip h1, put_end h.2]
    rfl
theorem merge_nodup : ∀ (more kvs : List (Key × W)), ((kvs ++ more).map (·.1)).Nodup → mergeW kvs more = kvs ++ more
  | [], kvs, _ => (List.append_nil kvs).symm
  | p :: r, kvs, h => by
    show mergeW (putW kvs p.1 p.2) r = _
    have hn : (kvs.all fun q => !decide (q.1 = p.1)) = true := by
      rw [List.all_eq_true]
      intro q hq
      rw [List.map_append, List.nodup_append] at h
      have := h.2.2 q.1 (List.mem_map.mpr ⟨q, hq, rfl⟩) p.1 (by rw [List.map_cons]; exact List.mem_cons_self)
      rw [decide_eq_false this]; rfl
    rw [put_end hn, merge_nodup r (kvs ++ [(p.1, p.2)]) (by rw [List.append_assoc]; exact h), List.append_assoc]
    rfl
theorem merge_new {ps : List (Key × W)} {ks : List Key} (e : ps.map (·.1) = ks) (h : ks.Nodup) : mergeW [] ps = ps := merge_nodup ps [] (by rw [List.nil_append, e]; exact h)
theorem whlW_t {test : Sw → GH → (Bool → GH → Prop) → Prop} {body : WEnds → Sw → GH → Prop} {D : WEnds} {n : Nat} {σ : Sw} {G : GH} (h : test σ G fun c G1 => brn c (body { D with nx := whlW test body D n, ct := whlW test body D n, bk := D.nx } σ G1) (D.nx σ G1)) : whlW test body D (n + 1) σ G := by rw [whlW_succ]; exact h
end PV
namespace LW
open PySem PySem.Spec L2 PV
/-! the forms -/
def b_reckoned : ISs := (.cons (.ife (.cmp .eq (.var 0) (.str "plus")) (.cons (.ret (.op .mod (.op .add (.var 1) (.var 2)) (.glob "ROUND" (.int 100)))) .nil) .nil) (.cons (.ife (.cmp .eq (.var 0) (.str "minus")) (.cons (.ret (.op .mod (.op .sub (.var 1) (.var 2)) (.glob "ROUND" (.int 100)))) .nil) .nil) (.cons (.ife (.cmp .eq (.var 0) (.str "times")) (.cons (.ret (.op .mod (.op .mul (.var 1) (.var 2)) (.glob "ROUND" (.int 100)))) .nil) .nil) (.cons (.ife (.cmp .eq (.var 0) (.str "less")) (.cons (.ret (.bi .int1 (.cons (.cmp .lt (.var 1) (.var 2)) .nil))) .nil) .nil) (.cons (.ret (.bi .int1 (.cons (.cmp .eq (.var 1) (.var 2)) .nil))) .nil)))))
def r_reckoned : FR := ⟨"reckoned", 3, 3, b_reckoned⟩
def b_value : ISs := (.cons (.ife (.cmp .eq (.ix (.var 0) (.int 0)) (.str "num")) (.cons (.ret (.ix (.var 0) (.int 1))) .nil) .nil) (.cons (.ife (.cmp .eq (.ix (.var 0) (.int 0)) (.str "box")) (.cons (.ret (.ix (.var 1) (.ix (.var 0) (.int 1)))) .nil) .nil) (.cons (.ife (.cmp .eq (.ix (.var 0) (.int 0)) (.str "load")) (.cons (.ret (.var 2)) .nil) .nil) (.cons (.ife (.cmp .eq (.ix (.var 0) (.int 0)) (.str "now")) (.cons (.ret (.op .mod (.var 3) (.glob "ROUND" (.int 100)))) .nil) .nil) (.cons (.ife (.cmp .eq (.ix (.var 0) (.int 0)) (.str "pick")) (.cons (.asg (.nm 4) (.ix (.var 0) (.int 3))) (.cons (.ife (.cmp .ne (.call 9 (.cons (.ix (.var 0) (.int 1)) (.cons (.var 1) (.cons (.var 2) (.cons (.var 3) .nil))))) (.int 0)) (.cons (.asg (.nm 4) (.ix (.var 0) (.int 2))) .nil) .nil) (.cons (.ret (.call 9 (.cons (.var 4) (.cons (.var 1) (.cons (.var 2) (.cons (.var 3) .nil)))))) .nil))) .nil) (.cons (.ret (.call 10 (.cons (.ix (.var 0) (.int 0)) (.cons (.call 9 (.cons (.ix (.var 0) (.int 1)) (.cons (.var 1) (.cons (.var 2) (.cons (.var 3) .nil))))) (.cons (.call 9 (.cons (.ix (.var 0) (.int 2)) (.cons (.var 1) (.cons (.var 2) (.cons (.var 3) .nil))))) .nil))))) .nil))))))
def r_value : FR := ⟨"value", 4, 5, b_value⟩
def b__law_mixed : ISs := (.cons (.asg (.nm 2) (.op .mod (.op .mul (.op .add (.var 0) (.op .mul (.int 7919) (.var 1))) (.int 48271)) (.int 2147483647))) (.cons (.ret (.op .mod (.op .mul (.var 2) (.op .add (.op .add (.var 2) (.op .mul (.int 2) (.var 1))) (.int 1))) (.int 2147483629))) .nil))
def r__law_mixed : FR := ⟨"_law_mixed", 2, 3, b__law_mixed⟩
def b__law_digits : ISs := (.cons (.asg (.nm 2) (.int 0)) (.cons (.ife (.cmp .lt (.var 1) (.bi .len (.cons (.var 0) .nil))) (.cons (.asg (.nm 2) (.ix (.var 0) (.var 1))) .nil) .nil) (.cons (.ife (.cmp .eq (.op .mod (.bi .len (.cons (.var 0) .nil)) (.int 2)) (.int 1)) (.cons (.asg (.nm 3) (.int 0)) (.cons (.for_ (.nm 4) (.rng1 (.int 12)) (.cons (.asg (.nm 3) (.op .add (.op .mul (.var 3) (.int 2147483629)) (.call 7 (.cons (.var 2) (.cons (.op .add (.op .mul (.int 100) (.var 1)) (.var 4)) .nil))))) .nil)) (.cons (.asg (.nm 2) (.var 3)) .nil))) .nil) (.cons (.ret (.ofl (.disp (.cons (.bi .abs (.cons (.var 2) .nil)) (.cons (.int 0) .nil))))) .nil))))
def r__law_digits : FR := ⟨"_law_digits", 2, 5, b__law_digits⟩
def b__law_next : ISs := (.cons (.asg (.nm 2) (.op .mod (.ix (.var 0) (.int 0)) (.var 1))) (.cons (.asg (.sub (.var 0) (.int 0)) (.op .fdiv (.ix (.var 0) (.int 0)) (.var 1))) (.cons (.ret (.var 2)) .nil)))
def r__law_next : FR := ⟨"_law_next", 2, 3, b__law_next⟩
def b__law_due : ISs := (.cons (.asg (.nm 2) (.dic (.cons (.str "plus") (.op .add (.var 0) (.var 1)) (.cons (.str "minus") (.op .sub (.var 0) (.var 1)) (.cons (.str "times") (.op .mul (.var 0) (.var 1)) .nil))))) (.cons (.for_ (.nm 3) (.seq (.tup (.cons (.str "plus") (.cons (.str "minus") (.cons (.str "times") .nil))))) (.cons (.whl (.cmp .lt (.ix (.var 2) (.var 3)) (.int 0)) (.cons (.asg (.sub (.var 2) (.var 3)) (.op .add (.ix (.var 2) (.var 3)) (.int 100))) .nil)) (.cons (.asg (.sub (.var 2) (.var 3)) (.op .sub (.ix (.var 2) (.var 3)) (.op .mul (.op .fdiv (.ix (.var 2) (.var 3)) (.int 100)) (.int 100)))) .nil))) (.cons (.asg (.sub (.var 2) (.str "less")) (.ixl (.disp (.cons (.int 0) (.cons (.int 1) .nil))) (.bi .int1 (.cons (.cmp .lt (.var 0) (.var 1)) .nil)))) (.cons (.asg (.sub (.var 2) (.str "same")) (.ixl (.disp (.cons (.int 0) (.cons (.int 1) .nil))) (.bi .int1 (.cons (.cmp .eq (.var 0) (.var 1)) .nil)))) (.cons (.ret (.var 2)) .nil)))))
def r__law_due : FR := ⟨"_law_due", 2, 4, b__law_due⟩
def b__law_pairs_right : ISs := (.cons (.asg (.tp (.cons (.nm 4) (.cons (.nm 5) (.cons (.nm 6) .nil)))) (.var 3)) (.cons (.asg (.nm 7) (.call 6 (.cons (.var 0) (.cons (.var 1) .nil)))) (.cons (.forD (.nm 8) (.var 7) (.cons (.asg (.nm 9) (.call 9 (.cons (.op .add (.tup (.cons (.var 8) .nil)) (.var 2)) (.cons (.var 4) (.cons (.var 5) (.cons (.var 6) .nil)))))) (.cons (.ife (.orl (.cons (.nt (.isi (.var 9) [.int])) (.cons (.isi (.var 9) [.bool]) (.cons (.cmp .ne (.var 9) (.ix (.var 7) (.var 8))) .nil)))) (.cons (.ret (.bl false)) .nil) .nil) .nil))) (.cons (.asg (.nm 10) (.tup (.cons (.str "num") (.cons (.int 41) .nil)))) (.cons (.ife (.cmp .ne (.call 9 (.cons (.op .add (.op .add (.tup (.cons (.str "pick") .nil)) (.var 2)) (.tup (.cons (.var 10) .nil))) (.cons (.var 4) (.cons (.var 5) (.cons (.var 6) .nil))))) (.ixl (.disp (.cons (.var 1) (.cons (.int 41) .nil))) (.bi .int1 (.cons (.cmp .eq (.var 0) (.int 0)) .nil)))) (.cons (.ret (.bl false)) .nil) .nil) (.cons (.ife (.cmp .ne (.call 9 (.cons (.op .add (.tup (.cons (.str "pick") (.cons (.var 10) .nil))) (.var 2)) (.cons (.var 4) (.cons (.var 5) (.cons (.var 6) .nil))))) (.var 0)) (.cons (.ret (.bl false)) .nil) .nil) (.cons (.ret (.cmp .eq (.call 9 (.cons (.op .add (.tup (.cons (.str "pick") (.cons (.tup (.cons (.str "num") (.cons (.int 0) .nil))) .nil))) (.var 2)) (.cons (.var 4) (.cons (.var 5) (.cons (.var 6) .nil))))) (.var 1))) .nil)))))))
def r__law_pairs_right : FR := ⟨"_law_pairs_right", 4, 11, b__law_pairs_right⟩
def b_law : ISs := (.cons (.for_ (.nm 1) (.rng1 (.bi .max2 (.cons (.int 1) (.cons (.bi .min2 (.cons (.int 63) (.cons (.bi .len (.cons (.var 0) .nil)) .nil))) .nil)))) (.cons (.asg (.nm 2) (.call 2 (.cons (.var 0) (.cons (.var 1) .nil)))) (.cons (.asg (.nm 3) (.call 4 (.cons (.var 2) (.cons (.int 100) .nil)))) (.cons (.asg (.nm 4) (.call 4 (.cons (.var 2) (.cons (.int 100) .nil)))) (.cons (.ife (.cmp .eq (.call 4 (.cons (.var 2) (.cons (.int 8) .nil))) (.int 1)) (.cons (.asg (.nm 4) (.var 3)) .nil) .nil) (.cons (.ife (.cmp .eq (.call 4 (.cons (.var 2) (.cons (.int 8) .nil))) (.int 1)) (.cons (.asg (.nm 3) (.int 0)) .nil) .nil) (.cons (.asg (.nm 5) (.op .add (.op .mul (.ix (.var 2) (.int 0)) (.int 100)) (.var 4))) (.cons (.asg (.nm 6) (.tup (.cons (.dic (.cons (.str "x") (.var 3) (.cons (.str "yy") (.var 4) (.cons (.str "zzz") (.int 50) .nil)))) (.cons (.var 3) (.cons (.var 5) .nil))))) (.cons (.for_ (.nm 7) (.seq (.tup (.cons (.tup (.cons (.str "num") (.cons (.var 3) .nil))) (.cons (.tup (.cons (.str "box") (.cons (.str "x") .nil))) (.cons (.tup (.cons (.str "load") .nil)) (.cons (.tup (.cons (.str "plus") (.cons (.tup (.cons (.str "num") (.cons (.int 0) .nil))) (.cons (.tup (.cons (.str "box") (.cons (.str "x") .nil))) .nil)))) .nil)))))) (.cons (.for_ (.nm 8) (.seq (.tup (.cons (.tup (.cons (.str "num") (.cons (.var 4) .nil))) (.cons (.tup (.cons (.str "box") (.cons (.str "yy") .nil))) (.cons (.tup (.cons (.str "now") .nil)) (.cons (.tup (.cons (.str "minus") (.cons (.tup (.cons (.str "box") (.cons (.str "yy") .nil))) (.cons (.tup (.cons (.str "num") (.cons (.int 0) .nil))) .nil)))) .nil)))))) (.cons (.ife (.nt (.call 8 (.cons (.var 3) (.cons (.var 4) (.cons (.tup (.cons (.var 7) (.cons (.var 8) .nil))) (.cons (.var 6) .nil)))))) (.cons (.ret (.bl false)) .nil) .nil) .nil)) .nil)) (.cons (.ife (.cmp .ne (.ix (.var 6) (.int 0)) (.dic (.cons (.str "x") (.var 3) (.cons (.str "yy") (.var 4) (.cons (.str "zzz") (.int 50) .nil))))) (.cons (.ret (.bl false)) .nil) .nil) .nil)))))))))) (.cons (.ret (.bl true)) .nil))
def r_law : FR := ⟨"law", 1, 9, b_law⟩
def tbl : List (Nat × FR) := [(10, r_reckoned), (9, r_value), (7, r__law_mixed), (2, r__law_digits), (4, r__law_next), (6, r__law_due), (8, r__law_pairs_right), (1, r_law)]
def gls : List (Str × W) := [("ROUND", (.int 100))]
def T : Tab := ⟨fun f => tbl.lookup f, gls, ["abs", "bool", "int", "isinstance", "len", "max", "min", "range"]⟩
end LW
namespace LW
open PySem PySem.Spec L2 PV
/-! the text by places, the check -/
def topS (i : Nat) : Stmt := PySem.Challenge.pw_pastmill_k04_values.main.body.getD i (.Pass ⟨0, 0, 0, 0⟩)
abbrev s_reckoned : Stmt := topS 2
abbrev s_value : Stmt := topS 3
abbrev s__law_mixed : Stmt := topS 5
abbrev s__law_digits : Stmt := topS 6
abbrev s__law_next : Stmt := topS 7
abbrev s__law_due : Stmt := topS 8
abbrev s__law_pairs_right : Stmt := topS 9
abbrev s_law : Stmt := topS 10
theorem sc_reckoned : FnScope ["word", "one", "other"] ["word", "one", "other"] (defScope s_reckoned) := ⟨rfl, rfl, rfl, by decide +kernel, rfl, by decide +kernel, by decide +kernel⟩
theorem ck_reckoned : chkSs T ["word", "one", "other"] (defScope s_reckoned).names r_reckoned.body (defBody s_reckoned) = true := by decide +kernel
theorem sc_value : FnScope ["tree", "boxes", "load", "time", "chosen"] ["tree", "boxes", "load", "time"] (defScope s_value) := ⟨rfl, rfl, rfl, by decide +kernel, rfl, by decide +kernel, by decide +kernel⟩
theorem ck_value : chkSs T ["tree", "boxes", "load", "time", "chosen"] (defScope s_value).names r_value.body (defBody s_value) = true := by decide +kernel
theorem sc__law_mixed : FnScope ["_law_cell", "_law_k", "_law_number"] ["_law_cell", "_law_k"] (defScope s__law_mixed) := ⟨rfl, rfl, rfl, by decide +kernel, rfl, by decide +kernel, by decide +kernel⟩
theorem ck__law_mixed : chkSs T ["_law_cell", "_law_k", "_law_number"] (defScope s__law_mixed).names r__law_mixed.body (defBody s__law_mixed) = true := by decide +kernel
theorem sc__law_digits : FnScope ["_law_script", "_law_k", "_law_cell", "_law_found", "_law_j"] ["_law_script", "_law_k"] (defScope s__law_digits) := ⟨rfl, rfl, rfl, by decide +kernel, rfl, by decide +kernel, by decide +kernel⟩
theorem ck__law_digits : chkSs T ["_law_script", "_law_k", "_law_cell", "_law_found", "_law_j"] (defScope s__law_digits).names r__law_digits.body (defBody s__law_digits) = true := by decide +kernel
theorem sc__law_next : FnScope ["_law_state", "_law_many", "_law_found"] ["_law_state", "_law_many"] (defScope s__law_next) := ⟨rfl, rfl, rfl, by decide +kernel, rfl, by decide +kernel, by decide +kernel⟩
theorem ck__law_next : chkSs T ["_law_state", "_law_many", "_law_found"] (defScope s__law_next).names r__law_next.body (defBody s__law_next) = true := by decide +kernel
theorem sc__law_due : FnScope ["_law_one", "_law_other", "_law_found", "_law_word"] ["_law_one", "_law_other"] (defScope s__law_due) := ⟨rfl, rfl, rfl, by decide +kernel, rfl, by decide +kernel, by decide +kernel⟩
theorem ck__law_due : chkSs T ["_law_one", "_law_other", "_law_found", "_law_word"] (defScope s__law_due).names r__law_due.body (defBody s__law_due) = true := by decide +kernel
theorem sc__law_pairs_right : FnScope ["_law_one", "_law_other", "_law_parts", "_law_rest", "_law_boxes", "_law_load", "_law_time", "_law_due_here", "_law_word", "_law_found", "_law_third"] ["_law_one", "_law_other", "_law_parts", "_law_rest"] (defScope s__law_pairs_right) := ⟨rfl, rfl, rfl, by decide +kernel, rfl, by decide +kernel, by decide +kernel⟩
theorem ck__law_pairs_right : chkSs T ["_law_one", "_law_other", "_law_parts", "_law_rest", "_law_boxes", "_law_load", "_law_time", "_law_due_here", "_law_word", "_law_found", "_law_third"] (defScope s__law_pairs_right).names r__law_pairs_right.body (defBody s__law_pairs_right) = true := by decide +kernel
theorem sc_law : FnScope ["_law_script", "_law_k", "_law_state", "_law_one", "_law_other", "_law_time", "_law_rest", "_law_left", "_law_right"] ["_law_script"] (defScope s_law) := ⟨rfl, rfl, rfl, by decide +kernel, rfl, by decide +kernel, by decide +kernel⟩
theorem ck_law : chkSs T ["_law_script", "_law_k", "_law_state", "_law_one", "_law_other", "_law_time", "_law_rest", "_law_left", "_law_right"] (defScope s_law).names r_law.body (defBody s_law) = true := by decide +kernel
section
variable {K : PySem.W.Frag} {h : Heap} {mg : Str → Option Value}
theorem fa_reckoned (X : K.In h) (G : h.Ns mainGlobals mg) {f : Addr} {od an : Option Addr} {sl : Array (Option Value)} {oc kV dc pm cd ct : Value} (a : PySem.W.nsIn K mainGlobals "reckoned" = some (some (.ref f)))
    (l : K.lookup f = some ⟨oc, od, .func (PySem.W.fnOf "reckoned" "reckoned" (defArgs s_reckoned) (defBody s_reckoned) (defScope s_reckoned) .none kV dc pm an cd ct), sl⟩) (c : PySem.W.codeIn K cd "reckoned" = true) (k : PySem.W.keepIn K (.ref f) = true) : FnAt T K mg r_reckoned :=
  have F := fun_mk (st := s_reckoned) l c k
  ⟨⟨f, _, "reckoned", "reckoned", s_reckoned, _, ["word", "one", "other"], PySem.W.mg_of X G a, F, F.binds (ps := ["word", "one", "other"]) (fun _ _ _ _ _ _ us hl => match us, hl with | [_, _, _], _ => rfl), sc_reckoned, rfl, rfl, ck_reckoned⟩⟩
theorem fa_value (X : K.In h) (G : h.Ns mainGlobals mg) {f : Addr} {od an : Option Addr} {sl : Array (Option Value)} {oc kV dc pm cd ct : Value} (a : PySem.W.nsIn K mainGlobals "value" = some (some (.ref f)))
    (l : K.lookup f = some ⟨oc, od, .func (PySem.W.fnOf "value" "value" (defArgs s_value) (defBody s_value) (defScope s_value) .none kV dc pm an cd ct), sl⟩) (c : PySem.W.codeIn K cd "value" = true) (k : PySem.W.keepIn K (.ref f) = true) : FnAt T K mg r_value :=
  have F := fun_mk (st := s_value) l c k
  ⟨⟨f, _, "value", "value", s_value, _, ["tree", "boxes", "load", "time"], PySem.W.mg_of X G a, F, F.binds (ps := ["tree", "boxes", "load", "time"]) (fun _ _ _ _ _ _ us hl => match us, hl with | [_, _, _, _], _ => rfl), sc_value, rfl, rfl, ck_value⟩⟩
theorem fa__law_mixed (X : K.In h) (G : h.Ns mainGlobals mg) {f : Addr} {od an : Option Addr} {sl : Array (Option Value)} {oc kV dc pm cd ct : Value} (a : PySem.W.nsIn K mainGlobals "_law_mixed" = some (some (.ref f)))
    (l : K.lookup f = some ⟨oc, od, .func (PySem.W.fnOf "_law_mixed" "_law_mixed" (defArgs s__law_mixed) (defBody s__law_mixed) (defScope s__law_mixed) .none kV dc pm an cd ct), sl⟩) (c : PySem.W.codeIn K cd "_law_mixed" = true) (k : PySem.W.keepIn K (.ref f) = true) : FnAt T K mg r__law_mixed :=
  have F := fun_mk (st := s__law_mixed) l c k
  ⟨⟨f, _, "_law_mixed", "_law_mixed", s__law_mixed, _, ["_law_cell", "_law_k"], PySem.W.mg_of X G a, F, F.binds (ps := ["_law_cell", "_law_k"]) (fun _ _ _ _ _ _ us hl => match us, hl with | [_, _], _ => rfl), sc__law_mixed, rfl, rfl, ck__law_mixed⟩⟩
theorem fa__law_digits (X : K.In h) (G : h.Ns mainGlobals mg) {f : Addr} {od an : Option Addr} {sl : Array (Option Value)} {oc kV dc pm cd ct : Value} (a : PySem.W.nsIn K mainGlobals "_law_digits" = some (some (.ref f)))
    (l : K.lookup f = some ⟨oc, od, .func (PySem.W.fnOf "_law_digits" "_law_digits" (defArgs s__law_digits) (defBody s__law_digits) (defScope s__law_digits) .none kV dc pm an cd ct), sl⟩) (c : PySem.W.codeIn K cd "_law_digits" = true) (k : PySem.W.keepIn K (.ref f) = true) : FnAt T K mg r__law_digits :=
  have F := fun_mk (st := s__law_digits) l c k
  ⟨⟨f, _, "_law_digits", "_law_digits", s__law_digits, _, ["_law_script", "_law_k"], PySem.W.mg_of X G a, F, F.binds (ps := ["_law_script", "_law_k"]) (fun _ _ _ _ _ _ us hl => match us, hl with | [_, _], _ => rfl), sc__law_digits, rfl, rfl, ck__law_digits⟩⟩
theorem fa__law_next (X : K.In h) (G : h.Ns mainGlobals mg) {f : Addr} {od an : Option Addr} {sl : Array (Option Value)} {oc kV dc pm cd ct : Value} (a : PySem.W.nsIn K mainGlobals "_law_next" = some (some (.ref f)))
    (l : K.lookup f = some ⟨oc, od, .func (PySem.W.fnOf "_law_next" "_law_next" (defArgs s__law_next) (defBody s__law_next) (defScope s__law_next) .none kV dc pm an cd ct), sl⟩) (c : PySem.W.codeIn K cd "_law_next" = true) (k : PySem.W.keepIn K (.ref f) = true) : FnAt T K mg r__law_next :=
  have F := fun_mk (st := s__law_next) l c k
  ⟨⟨f, _, "_law_next", "_law_next", s__law_next, _, ["_law_state", "_law_many"], PySem.W.mg_of X G a, F, F.binds (ps := ["_law_state", "_law_many"]) (fun _ _ _ _ _ _ us hl => match us, hl with | [_, _], _ => rfl), sc__law_next, rfl, rfl, ck__law_next⟩⟩
theorem fa__law_due (X : K.In h) (G : h.Ns mainGlobals mg) {f : Addr} {od an : Option Addr} {sl : Array (Option Value)} {oc kV dc pm cd ct : Value} (a : PySem.W.nsIn K mainGlobals "_law_due" = some (some (.ref f)))
    (l : K.lookup f = some ⟨oc, od, .func (PySem.W.fnOf "_law_due" "_law_due" (defArgs s__law_due) (defBody s__law_due) (defScope s__law_due) .none kV dc pm an cd ct), sl⟩) (c : PySem.W.codeIn K cd "_law_due" = true) (k : PySem.W.keepIn K (.ref f) = true) : FnAt T K mg r__law_due :=
  have F := fun_mk (st := s__law_due) l c k
  ⟨⟨f, _, "_law_due", "_law_due", s__law_due, _, ["_law_one", "_law_other"], PySem.W.mg_of X G a, F, F.binds (ps := ["_law_one", "_law_other"]) (fun _ _ _ _ _ _ us hl => match us, hl with | [_, _], _ => rfl), sc__law_due, rfl, rfl, ck__law_due⟩⟩
theorem fa__law_pairs_right (X : K.In h) (G : h.Ns mainGlobals mg) {f : Addr} {od an : Option Addr} {sl : Array (Option Value)} {oc kV dc pm cd ct : Value} (a : PySem.W.nsIn K mainGlobals "_law_pairs_right" = some (some (.ref f)))
    (l : K.lookup f = some ⟨oc, od, .func (PySem.W.fnOf "_law_pairs_right" "_law_pairs_right" (defArgs s__law_pairs_right) (defBody s__law_pairs_right) (defScope s__law_pairs_right) .none kV dc pm an cd ct), sl⟩) (c : PySem.W.codeIn K cd "_law_pairs_right" = true) (k : PySem.W.keepIn K (.ref f) = true) : FnAt T K mg r__law_pairs_right :=
  have F := fun_mk (st := s__law_pairs_right) l c k
  ⟨⟨f, _, "_law_pairs_right", "_law_pairs_right", s__law_pairs_right, _, ["_law_one", "_law_other", "_law_parts", "_law_rest"], PySem.W.mg_of X G a, F, F.binds (ps := ["_law_one", "_law_other", "_law_parts", "_law_rest"]) (fun _ _ _ _ _ _ us hl => match us, hl with | [_, _, _, _], _ => rfl), sc__law_pairs_right, rfl, rfl, ck__law_pairs_right⟩⟩
theorem fa_law (X : K.In h) (G : h.Ns mainGlobals mg) {f : Addr} {od an : Option Addr} {sl : Array (Option Value)} {oc kV dc pm cd ct : Value} (a : PySem.W.nsIn K mainGlobals "law" = some (some (.ref f)))
    (l : K.lookup f = some ⟨oc, od, .func (PySem.W.fnOf "law" "law" (defArgs s_law) (defBody s_law) (defScope s_law) .none kV dc pm an cd ct), sl⟩) (c : PySem.W.codeIn K cd "law" = true) (k : PySem.W.keepIn K (.ref f) = true) : FnAt T K mg r_law :=
  have F := fun_mk (st := s_law) l c k
  ⟨⟨f, _, "law", "law", s_law, _, ["_law_script"], PySem.W.mg_of X G a, F, F.binds (ps := ["_law_script"]) (fun _ _ _ _ _ _ us hl => match us, hl with | [_], _ => rfl), sc_law, rfl, rfl, ck_law⟩⟩
end
end LW
namespace LW
open PySem PySem.Spec L2 PV
local macro_rules | `(tactic| walk_at "go") => `(tactic| (conv => whnf))
local macro_rules | `(tactic| walk_at "side") => `(tactic| first | assumption | exact gup_same | exact Sub.refl _ | exact trivial | exact rfl | decide | omega | exact ⟨by omega, by omega⟩ | exact .inl ⟨by omega, by omega⟩ | exact .inr ⟨by omega, by omega⟩ | exact Nat.le_of_ble_eq_true rfl | exact sizeL (Nat.le_of_ble_eq_true rfl) | exact sizeL (by omega))
local macro_rules | `(tactic| walk_at "run") => `(tactic| (conv => whnf); repeat (first | (refine Exists.intro _ (And.intro (by walk_at "side") ?_); conv => whnf) | (refine And.intro (by walk_at "side") ?_; conv => whnf)))
abbrev tb := T.fs
def reck (w : Str) (i j : Int) : Int :=
  if w = "plus" then (i + j) % 100 else if w = "minus" then (i - j) % 100 else if w = "times" then i * j % 100 else if w = "less" then (if decide (i < j) = true then 1 else 0) else (if decide (i = j) = true then 1 else 0)
theorem ev_reckoned {k : Nat} {w : Str} {i j : Int} {G : GH} {Q : QW} {E} (hk : 1 ≤ k) (hm : CMul i j) (q : Q (.int (reck w i j)) G) : evF tb k 10 [.str w, .int i, .int j] G Q E := by
  obtain ⟨k, rfl⟩ : ∃ j, k = j + 1 := ⟨k - 1, by omega⟩
  unfold reck at q
  walk_at "run"
  refine brn_d (fun h1 => ?_) fun h1 => ?_
  · rw [if_pos h1] at q
    walk_at "run"
    exact q
  rw [if_neg h1] at q
  walk_at "run"
  refine brn_d (fun h1 => ?_) fun h1 => ?_
  · rw [if_pos h1] at q
    walk_at "run"
    exact q
  rw [if_neg h1] at q
  walk_at "run"
  refine brn_d (fun h1 => ?_) fun h1 => ?_
  · rw [if_pos h1] at q
    walk_at "run"
    exact q
  rw [if_neg h1] at q
  walk_at "run"
  refine brn_d (fun h1 => ?_) fun h1 => ?_
  · rw [if_pos h1] at q
    walk_at "run"
    exact q
  rw [if_neg h1] at q
  walk_at "run"
  exact q
def opWord (w : Str) : Prop := ¬ w = "num" ∧ ¬ w = "box" ∧ ¬ w = "load" ∧ ¬ w = "now" ∧ ¬ w = "pick"
/-- the value of a tree -/
inductive Val (b : List (Key × W)) (ld tm : Int) : Nat → W → Int → Prop
  | num {d : Nat} (n : Int) : Val b ld tm d (.tup [.str "num", .int n]) n
  | box {d : Nat} {x : Str} {n : Int} : valW b (.inr x) = some (.int n) → Val b ld tm d (.tup [.str "box", .str x]) n
  | load {d : Nat} : Val b ld tm d (.tup [.str "load"]) ld
  | now {d : Nat} : Val b ld tm d (.tup [.str "now"]) (tm % 100)
  | pick {d : Nat} {c x y : W} {k n m : Int} : Val b ld tm d c k → Val b ld tm d x n → Val b ld tm d y m → Val b ld tm (d + 1) (.tup [.str "pick", c, x, y]) (if k = 0 then m else n)
  | op {d : Nat} {w : Str} {x y : W} {n m : Int} : opWord w → Val b ld tm d x n → Val b ld tm d y m → CMul n m → Val b ld tm (d + 1) (.tup [.str w, x, y]) (reck w n m)
theorem ev_value {b : List (Key × W)} {ld tm : Int} {p : Addr} {d : Nat} {t : W} {n : Int} (h : Val b ld tm d t n) : ∀ {k : Nat} {G : GH} {Q : QW} {E}, d + 2 ≤ k → G p = some (.dct b) ∨ G p = some (.fdct b) → Q (.int n) G → evF tb k 9 [t, .ref p, .int ld, .int tm] G Q E := by
  induction h with
  | num n =>
    intro k G Q E hk hG q
    obtain ⟨k, rfl⟩ : ∃ j, k = j + 1 := ⟨k - 1, by omega⟩
    walk_at "run"
    exact q
  | box h =>
    intro k G Q E hk hG q
    obtain ⟨k, rfl⟩ : ∃ j, k = j + 1 := ⟨k - 1, by omega⟩
    rcases hG with hG | hG
    all_goals
      walk_at "run"
      refine onS_i h ?_
      walk_at "run"
      exact q
  | load =>
    intro k G Q E hk hG q
    obtain ⟨k, rfl⟩ : ∃ j, k = j + 1 := ⟨k - 1, by omega⟩
    walk_at "run"
    exact q
  | now =>
    intro k G Q E hk hG q
    obtain ⟨k, rfl⟩ : ∃ j, k = j + 1 := ⟨k - 1, by omega⟩
    walk_at "run"
    exact q
  | pick h1 h2 h3 ih1 ih2 ih3 =>
    intro k G Q E hk hG q
    obtain ⟨k, rfl⟩ : ∃ j, k = j + 1 := ⟨k - 1, by omega⟩
    walk_at "run"
    refine ih1 (by omega) hG ?_
    walk_at "run"
    refine brn_nd (fun h => ?_) fun h => ?_
    · rw [if_neg h] at q
      walk_at "run"
      refine ih2 (by omega) hG ?_
      walk_at "run"
      exact q
    · rw [if_pos h] at q
      walk_at "run"
      refine ih3 (by omega) hG ?_
      walk_at "run"
      exact q
  | op hw h1 h2 hm ih1 ih2 =>
    intro k G Q E hk hG q
    obtain ⟨k, rfl⟩ : ∃ j, k = j + 1 := ⟨k - 1, by omega⟩
    obtain ⟨w1, w2, w3, w4, w5⟩ := hw
    walk_at "run"
    refine brn_d (fun h => (w1 h).elim) fun h => ?_
    walk_at "run"
    refine brn_d (fun h => (w2 h).elim) fun h => ?_
    walk_at "run"
    refine brn_d (fun h => (w3 h).elim) fun h => ?_
    walk_at "run"
    refine brn_d (fun h => (w4 h).elim) fun h => ?_
    walk_at "run"
    refine brn_d (fun h => (w5 h).elim) fun h => ?_
    walk_at "run"
    refine ih1 (by omega) hG ?_
    walk_at "run"
    refine ih2 (by omega) hG ?_
    walk_at "run"
    refine ev_reckoned (by omega) hm ?_
    walk_at "run"
    exact q
/-- what is due -/
def dueL (i j : Int) : List (Key × W) := [(.inr "plus", .int (reck "plus" i j)), (.inr "minus", .int (reck "minus" i j)), (.inr "times", .int (reck "times" i j)), (.inr "less", .int (reck "less" i j)), (.inr "same", .int (reck "same" i j))]
abbrev D3 (a b c : Int) : List (Key × W) := [(.inr "plus", .int a), (.inr "minus", .int b), (.inr "times", .int c)]
theorem mrg {a b c : Int} : mergeW [] (D3 a b c) = D3 a b c := merge_new (ks := [.inr "plus", .inr "minus", .inr "times"]) rfl (by decide +kernel)
theorem p1 {a b c v : Int} : putW (D3 a b c) (.inr "plus") (.int v) = D3 v b c := put_here rfl
theorem p2 {a b c v : Int} : putW (D3 a b c) (.inr "minus") (.int v) = D3 a v c := by rw [put_skip (by decide), put_here rfl]
theorem p3 {a b c v : Int} : putW (D3 a b c) (.inr "times") (.int v) = D3 a b v := by rw [put_skip (by decide), put_skip (by decide), put_here rfl]
theorem v1 {a b c : Int} : valW (D3 a b c) (.inr "plus") = some (.int a) := val_here
theorem v2 {a b c : Int} : valW (D3 a b c) (.inr "minus") = some (.int b) := by rw [val_skip (by decide), val_here]
theorem v3 {a b c : Int} : valW (D3 a b c) (.inr "times") = some (.int c) := by rw [val_skip (by decide), val_skip (by decide), val_here]
theorem p4 {a b c v : Int} : putW (D3 a b c) (.inr "less") (.int v) = D3 a b c ++ [(.inr "less", .int v)] := put_end rfl
theorem p5 {a b c v w : Int} : putW (D3 a b c ++ [(.inr "less", .int v)]) (.inr "same") (.int w) = [(.inr "plus", .int a), (.inr "minus", .int b), (.inr "times", .int c), (.inr "less", .int v), (.inr "same", .int w)] := put_end rfl
theorem due_eq {i j a b c : Int} (ha : a = (i + j) % 100) (hb : b = (i - j) % 100) (hc : c = i * j % 100) : dueL i j = [(.inr "plus", .int a), (.inr "minus", .int b), (.inr "times", .int c), (.inr "less", .int (if decide (i < j) = true then 1 else 0)), (.inr "same", .int (if decide (i = j) = true then 1 else 0))] := by
  subst ha hb hc
  rfl
theorem one_of {c : Bool} {P : W → Prop} (h : P (.int (if c = true then 1 else 0))) : onS (ixL [.int 0, .int 1] (if c = true then 1 else 0)) P := by
  cases c <;> exact h
theorem ev_due {k : Nat} {i j : Int} {G : GH} {Q : QW} {E} (hk : 1 ≤ k) (hi : 0 ≤ i ∧ i < 100) (hj : 0 ≤ j ∧ j < 100) (q : ∀ p, G p = none → Q (.ref p) (gup G p (.dct (dueL i j)))) : evF tb k 6 [.int i, .int j] G Q E := by
  obtain ⟨k, rfl⟩ : ∃ j, k = j + 1 := ⟨k - 1, by omega⟩
  have hm : 0 ≤ i * j := Int.mul_nonneg hi.1 hj.1
  walk_at "run"
  intro p hp
  rw [mrg]
  walk_at "run"
  refine forW_c ?_
  walk_at "run"
  refine ⟨1, whlW_t ?_⟩
  walk_at "run"
  refine onS_i v1 ?_
  walk_at "run"
  refine brn_d (fun h => by omega) fun h => ?_
  walk_at "run"
  refine onS_i v1 ?_
  walk_at "run"
  refine onS_i v1 ?_
  walk_at "run"
  rw [gup_gup, p1]
  refine forW_c ?_
  walk_at "run"
  refine ⟨2, whlW_t ?_⟩
  walk_at "run"
  refine onS_i v2 ?_
  walk_at "run"
  refine brn_d (fun h => ?_) fun h => ?_
  · walk_at "run"
    refine onS_i v2 ?_
    walk_at "run"
    rw [gup_gup, p2]
    refine whlW_t ?_
    walk_at "run"
    refine onS_i v2 ?_
    walk_at "run"
    refine brn_d (fun h => by omega) fun h => ?_
    walk_at "run"
    refine onS_i v2 ?_
    walk_at "run"
    refine onS_i v2 ?_
    walk_at "run"
    rw [gup_gup, p2]
    refine forW_c ?_
    walk_at "run"
    refine ⟨1, whlW_t ?_⟩
    walk_at "run"
    refine onS_i v3 ?_
    walk_at "run"
    refine brn_d (fun h => by omega) fun h => ?_
    walk_at "run"
    refine onS_i v3 ?_
    walk_at "run"
    refine onS_i v3 ?_
    walk_at "run"
    rw [gup_gup, p3]
    refine forW_n ?_
    walk_at "run"
    refine one_of ?_
    walk_at "run"
    rw [gup_gup, p4]
    walk_at "run"
    refine one_of ?_
    walk_at "run"
    rw [gup_gup, p5, ← due_eq (by omega) (by omega) (by omega)]
    exact q p hp
  · walk_at "run"
    refine onS_i v2 ?_
    walk_at "run"
    refine onS_i v2 ?_
    walk_at "run"
    rw [gup_gup, p2]
    refine forW_c ?_
    walk_at "run"
    refine ⟨1, whlW_t ?_⟩
    walk_at "run"
    refine onS_i v3 ?_
    walk_at "run"
    refine brn_d (fun h => by omega) fun h => ?_
    walk_at "run"
    refine onS_i v3 ?_
    walk_at "run"
    refine onS_i v3 ?_
    walk_at "run"
    rw [gup_gup, p3]
    refine forW_n ?_
    walk_at "run"
    refine one_of ?_
    walk_at "run"
    rw [gup_gup, p4]
    walk_at "run"
    refine one_of ?_
    walk_at "run"
    rw [gup_gup, p5, ← due_eq (by omega) (by omega) (by omega)]
    exact q p hp
theorem due_val {i j : Int} {w : W} (h : w ∈ (dueL i j).map fun kv => keyW kv.1) : ∃ x, w = .str x ∧ opWord x ∧ valW (dueL i j) (.inr x) = some (.int (reck x i j)) := by
  have hv : ∀ y z : Str, y ≠ z → (.inr y : Key) ≠ .inr z := fun y z n e => n (Sum.inr.inj e)
  unfold dueL at h ⊢
  simp only [List.map_cons, List.map_nil, List.mem_cons, List.not_mem_nil, or_false] at h
  rcases h with rfl | rfl | rfl | rfl | rfl
  · exact ⟨"plus", rfl, by unfold opWord; decide, val_here⟩
  · exact ⟨"minus", rfl, by unfold opWord; decide, by rw [val_skip (by decide), val_here]⟩
  · exact ⟨"times", rfl, by unfold opWord; decide, by rw [val_skip (by decide), val_skip (by decide), val_here]⟩
  · exact ⟨"less", rfl, by unfold opWord; decide, by rw [val_skip (by decide), val_skip (by decide), val_skip (by decide), val_here]⟩
  · exact ⟨"same", rfl, by unfold opWord; decide, by rw [val_skip (by decide), val_skip (by decide), val_skip (by decide), val_skip (by decide), val_here]⟩
theorem ev_pairs {k : Nat} {i j ld tm : Int} {l r : W} {b : List (Key × W)} {pb : Addr} {G : GH} {Q : QW} {E} (hk : 10 ≤ k) (hi : 0 ≤ i ∧ i < 100) (hj : 0 ≤ j ∧ j < 100) (hl : Val b ld tm 1 l i) (hr : Val b ld tm 1 r j) (hb : G pb = some (.dct b)) (q : ∀ G', Sub G G' → Q (.bl true) G') :
    evF tb k 8 [.int i, .int j, .tup [l, r], .tup [.ref pb, .int ld, .int tm]] G Q E := by
  obtain ⟨k, rfl⟩ : ∃ j, k = j + 1 := ⟨k - 1, by omega⟩
  have hc : CMul i j := .inl ⟨by omega, by omega⟩
  walk_at "run"
  refine ev_due (by omega) hi hj fun p hp => ?_
  have nb : pb ≠ p := fun e => by rw [e, hp] at hb; cases hb
  walk_at "run"
  refine ⟨p, _, gup_same, ?_⟩
  walk_at "run"
  rw [gup_gup]
  have hb1 : gup G p (.fdct (dueL i j)) pb = some (.dct b) := by rw [gup_ne nb]; exact hb
  refine forW_ind (fun r' σ G' => G' = gup G p (.fdct (dueL i j)) ∧ (∀ w ∈ r', w ∈ (dueL i j).map fun kv => keyW kv.1) ∧ ∃ u v, σ = [some (.int i), some (.int j), some (.tup [l, r]), some (.tup [.ref pb, .int ld, .int tm]), some (.ref pb), some (.int ld), some (.int tm), some (.ref p), u, v, none]) ?_ ?_ _ _ _ ⟨rfl, fun w hw => hw, _, _, rfl⟩
  · rintro w r' σ G' N ⟨rfl, hw, u, v, rfl⟩ hN
    obtain ⟨x, rfl, hx, hv⟩ := due_val (hw w List.mem_cons_self)
    walk_at "run"
    refine ev_value (.op hx hl hr hc) (by omega) (.inl hb1) ?_
    walk_at "run"
    refine onS_i hv ?_
    walk_at "run"
    refine brn_nd (fun h => (h rfl).elim) fun h => ?_
    walk_at "run"
    exact hN _ _ ⟨rfl, fun w h => hw w (List.mem_cons_of_mem _ h), _, _, rfl⟩
  · rintro σ G' ⟨rfl, hw, u, v, rfl⟩
    have hn (n : Int) : Val b ld tm 1 (.tup [.str "num", .int n]) n := .num n
    walk_at "run"
    rw [gup_gup]
    have hb2 : gup G p (.dct (dueL i j)) pb = some (.dct b) := by rw [gup_ne nb]; exact hb
    refine ev_value (.pick hl hr (hn 41)) (by omega) (.inl hb2) ?_
    walk_at "run"
    refine onS_i (x := .int (if i = 0 then 41 else j)) ?_ ?_
    · by_cases h : i = 0
      · rw [if_pos h]; subst h; rfl
      · rw [if_neg h, decide_eq_false h]; rfl
    walk_at "run"
    refine brn_nd (fun h => (h rfl).elim) fun _ => ?_
    walk_at "run"
    refine ev_value (.pick (hn 41) hl hr) (by omega) (.inl hb2) ?_
    walk_at "run"
    refine brn_nd (fun h => (h rfl).elim) fun _ => ?_
    walk_at "run"
    refine ev_value (.pick (hn 0) hl hr) (by omega) (.inl hb2) ?_
    walk_at "run"
    rw [if_pos rfl, decide_eq_true rfl]
    exact q _ (.gup hp)
def bx (i j : Int) : List (Key × W) := [(.inr "x", .int i), (.inr "yy", .int j), (.inr "zzz", .int 50)]
theorem bx_mrg {i j : Int} : mergeW [] (bx i j) = bx i j := merge_new (ks := [.inr "x", .inr "yy", .inr "zzz"]) rfl (by decide +kernel)
theorem bx_x {i j : Int} : valW (bx i j) (.inr "x") = some (.int i) := val_here
theorem bx_y {i j : Int} : valW (bx i j) (.inr "yy") = some (.int j) := by
  unfold bx
  rw [val_skip (by decide), val_here]
theorem bx_z {i j : Int} : valW (bx i j) (.inr "zzz") = some (.int 50) := by
  unfold bx
  rw [val_skip (by decide), val_skip (by decide), val_here]
theorem main (ns : List Int) (h : ns.length ≤ 63) : evF T.fs 40 1 [scriptW ns] (fun _ => none) (fun w _ => w = .bl true) fun _ _ => False := by
  obtain ⟨k, hk, e⟩ : ∃ k, 20 ≤ k ∧ 40 = k + 1 := ⟨39, by decide, rfl⟩
  rw [e]
  clear e
  walk_at "run"
  refine forW_ind (fun r σ _ => (∀ w ∈ r, ∃ i : Int, w = .int i ∧ 0 ≤ i ∧ i < 63) ∧ ∃ a b c d e f g i, σ = [some (scriptW ns), a, b, c, d, e, f, g, i]) ?_ ?_ _ _ _ ⟨?_, _, _, _, _, _, _, _, _, rfl⟩
  · rintro x r σ G N ⟨hr, a, b, c, d, e, f, g, i, rfl⟩ hN
    obtain ⟨t, rfl, hi, hi2⟩ := hr x List.mem_cons_self
    walk_at "run"
    refine ev_digits rfl rfl (by omega) hi (by omega) fun s G' hs hG => ?_
    walk_at "run"
    refine ev_next rfl (by omega) hG (by decide) (by decide) fun one G' h1 h2 hG => ?_
    walk_at "run"
    refine ev_next rfl (by omega) hG (by decide) (by decide) fun oth G' h3 h4 hG => ?_
    walk_at "run"
    refine ev_next rfl (by omega) hG (by decide) (by decide) fun m G' h5 h6 hG => ?_
    walk_at "run"
    refine brn_dcut (fun σ G' => Dr G s 0 G' ∧ ∃ j : Int, (0 ≤ j ∧ j < 100) ∧ σ = [some (scriptW ns), some (.int t), some (.ref s), some (.int one), some (.int j), e, f, g, i]) ?_ ?_ ?_
    · intro h R hR
      walk_at "run"
      exact hR _ _ ⟨hG, _, ⟨h1, h2⟩, rfl⟩
    · intro h R hR
      walk_at "run"
      exact hR _ _ ⟨hG, _, ⟨h3, h4⟩, rfl⟩
    rintro σ G' ⟨hG, oth, ho, rfl⟩
    walk_at "run"
    refine ev_next rfl (by omega) hG (by decide) (by decide) fun m G' h5 h6 hG => ?_
    walk_at "run"
    refine brn_dcut (fun σ G' => Dr G s 0 G' ∧ ∃ j : Int, (0 ≤ j ∧ j < 100) ∧ σ = [some (scriptW ns), some (.int t), some (.ref s), some (.int j), some (.int oth), e, f, g, i]) ?_ ?_ ?_
    · intro h R hR
      walk_at "run"
      exact hR _ _ ⟨hG, _, ⟨by decide, by decide⟩, rfl⟩
    · intro h R hR
      walk_at "run"
      exact hR _ _ ⟨hG, _, ⟨h1, h2⟩, rfl⟩
    rintro σ G' ⟨hG, one, hn, rfl⟩
    obtain ⟨n, rfl⟩ := hG
    walk_at "run"
    intro pb hpb
    have e1 : mergeW [] [((.inr "x" : Key), W.int one), (.inr "yy", .int oth), (.inr "zzz", .int 50)] = bx one oth := bx_mrg
    rw [e1]
    clear e1
    have ht : (n * 100 + oth) % 100 = oth := by omega
    walk_at "run"
    refine forW_ind (fun r' σ G' => (∀ w ∈ r', Val (bx one oth) one (n * 100 + oth) 1 w one) ∧ G' pb = some (.dct (bx one oth)) ∧ ∃ u v, σ = [some (scriptW ns), some (.int t), some (.ref s), some (.int one), some (.int oth), some (.int (n * 100 + oth)), some (.tup [.ref pb, .int one, .int (n * 100 + oth)]), u, v]) ?_ ?_ _ _ _ ⟨?_, gup_same, _, _, rfl⟩
    · rintro l r' σ G' N2 ⟨hl, hb, u, v, rfl⟩ hN2
      walk_at "run"
      refine forW_ind (fun r' σ G' => (∀ w ∈ r', Val (bx one oth) one (n * 100 + oth) 1 w oth) ∧ G' pb = some (.dct (bx one oth)) ∧ ∃ v, σ = [some (scriptW ns), some (.int t), some (.ref s), some (.int one), some (.int oth), some (.int (n * 100 + oth)), some (.tup [.ref pb, .int one, .int (n * 100 + oth)]), some l, v]) ?_ ?_ _ _ _ ⟨?_, hb, _, rfl⟩
      · rintro r r'' σ G' N3 ⟨hr, hb, v, rfl⟩ hN3
        walk_at "run"
        refine ev_pairs (by omega) hn ho (hl l List.mem_cons_self) (hr r List.mem_cons_self) hb fun G' hG => ?_
        walk_at "run"
        exact hN3 _ _ ⟨fun w hw => hr w (List.mem_cons_of_mem _ hw), hG _ _ hb, _, rfl⟩
      · rintro σ G' ⟨_, hb, v, rfl⟩
        walk_at "run"
        exact hN2 _ _ ⟨fun w hw => hl w (List.mem_cons_of_mem _ hw), hb, _, _, rfl⟩
      · intro w hw
        simp only [List.mem_cons, List.not_mem_nil, or_false] at hw
        rcases hw with rfl | rfl | rfl | rfl
        · exact .num _
        · exact .box bx_y
        · have := Val.now (b := bx one oth) (ld := one) (tm := n * 100 + oth) (d := 1)
          rw [ht] at this
          exact this
        · have := Val.op (b := bx one oth) (ld := one) (tm := n * 100 + oth) (d := 0) (w := "minus") (by unfold opWord; decide) (.box bx_y) (.num 0) (.inl ⟨by omega, by omega⟩)
          have e : reck "minus" oth 0 = oth := by show (oth - 0) % 100 = oth; omega
          rw [e] at this
          exact this
    · rintro σ G' ⟨_, hb, u, v, rfl⟩
      walk_at "run"
      intro p2 hp2
      have n2 : pb ≠ p2 := fun e => by rw [e, hp2] at hb; cases hb
      walk_at "run"
      refine .inr ⟨bx one oth, _, ?_, gup_same, ?_, ?_, ?_⟩
      · rw [gup_ne n2]; exact hb
      · exact congrArg List.length bx_mrg.symm
      · intro p hp
        have e : mergeW [] [((.inr "x" : Key), W.int one), (.inr "yy", .int oth), (.inr "zzz", .int 50)] = bx one oth := bx_mrg
        rw [e]
        simp only [bx, List.mem_cons, List.not_mem_nil, or_false] at hp
        rcases hp with rfl | rfl | rfl
        · exact ⟨bx_x, rfl⟩
        · exact ⟨bx_y, rfl⟩
        · exact ⟨bx_z, rfl⟩
      · walk_at "run"
        exact hN _ _ ⟨fun w hw => hr w (List.mem_cons_of_mem _ hw), _, _, _, _, _, _, _, _, rfl⟩
    · intro w hw
      simp only [List.mem_cons, List.not_mem_nil, or_false] at hw
      rcases hw with rfl | rfl | rfl | rfl
      · exact .num _
      · exact .box bx_x
      · exact .load
      · have := Val.op (b := bx one oth) (ld := one) (tm := n * 100 + oth) (d := 0) (w := "plus") (by unfold opWord; decide) (.num 0) (.box bx_x) (.inl ⟨by omega, by omega⟩)
        have e : reck "plus" 0 one = one := by show (0 + one) % 100 = one; omega
        rw [e] at this
        exact this
  · rintro σ G ⟨hr, a, b, c, d, e, f, g, i, rfl⟩
    walk_at "run"
  · intro w hw
    obtain ⟨i, rfl, h0, h1⟩ := mem_rng hw
    refine ⟨i, rfl, h0, ?_⟩
    rw [List.length_map] at h1
    omega
end LW
namespace LW
open PySem PySem.Spec L2 PV
abbrev FnIn {K : PySem.W.Frag} {h : Heap} (_ : K.In h) (T : Tab) (mg : Str → Option Value) (r : FR) : Prop := FnAt T K mg r
abbrev GlIn {K : PySem.W.Frag} {h : Heap} (_ : K.In h) (mg : Str → Option Value) (x : Str) (w : W) : Prop := GlbAt K mg x w
theorem law_end {l : PySem.W.OpenLaw} {w : World} {K : PySem.W.Frag} {h : Heap} {mg : Str → Option Value} {fa : Addr} (X : K.In h) (G : h.Ns mainGlobals mg) (hfa : mg "law" = some (.ref fa))
    (F_reckoned : FnAt T K mg r_reckoned)
    (F_value : FnAt T K mg r_value)
    (F__law_mixed : FnAt T K mg r__law_mixed)
    (F__law_digits : FnAt T K mg r__law_digits)
    (F__law_next : FnAt T K mg r__law_next)
    (F__law_due : FnAt T K mg r__law_due)
    (F__law_pairs_right : FnAt T K mg r__law_pairs_right)
    (C_ROUND : GlbAt K mg "ROUND" (.int 100))
    (B_abs : mg "abs" = none)
    (B_bool : mg "bool" = none)
    (B_int : mg "int" = none)
    (B_isinstance : mg "isinstance" = none)
    (B_len : mg "len" = none)
    (B_max : mg "max" = none)
    (B_min : mg "min" = none)
    (B_range : mg "range" = none)
    {f : Addr} {od an : Option Addr} {sl : Array (Option Value)} {oc kV dc pm cd ct : Value} (a : PySem.W.nsIn K mainGlobals "law" = some (some (.ref f)))
    (l1 : K.lookup f = some ⟨oc, od, .func (PySem.W.fnOf "law" "law" (defArgs s_law) (defBody s_law) (defScope s_law) .none kV dc pm an cd ct), sl⟩) (c : PySem.W.codeIn K cd "law" = true) (k : PySem.W.keepIn K (.ref f) = true) :
    ∃ fd : FuncData, (∀ (s : Shared) (v : Value), BindsTo s fd ⟨[v], []⟩ [("_law_script", v)]) ∧ ∀ base : Heap, K.In base → base.Ns mainGlobals mg → FnOk l.prog w K mg base CX0 40 fa fd ["_law_script"] (spW K 1 (evF T.fs 40 1)) := by
  have e := hfa.symm.trans (PySem.W.mg_of X G a)
  cases e
  have F_law : FnAt T K mg r_law := fa_law X G a l1 c k
  have ok : TabOk T K mg := by
    refine ⟨fns_of (tbl := tbl) rfl fun p hp => ?_, glbs_of (gl := gls) fun p hp => ?_, fun x hx => ?_⟩
    · simp only [tbl, List.mem_cons, List.not_mem_nil, or_false] at hp
      rcases hp with rfl | rfl | rfl | rfl | rfl | rfl | rfl | rfl
      · exact F_reckoned
      · exact F_value
      · exact F__law_mixed
      · exact F__law_digits
      · exact F__law_next
      · exact F__law_due
      · exact F__law_pairs_right
      · exact F_law
    · simp only [gls, List.mem_cons, List.not_mem_nil, or_false] at hp
      subst hp; exact C_ROUND
    · simp only [T, List.mem_cons, List.not_mem_nil, or_false] at hx
      rcases hx with rfl | rfl | rfl | rfl | rfl | rfl | rfl | rfl
      · exact B_abs
      · exact B_bool
      · exact B_int
      · exact B_isinstance
      · exact B_len
      · exact B_max
      · exact B_min
      · exact B_range
  have F := fun_mk (st := s_law) l1 c k
  exact ⟨_, fun s v => .of_eq rfl, fun base _ _ => step_ok (f := 1) (r := r_law) (sig_all ok 39) rfl F sc_law rfl rfl ck_law⟩
end LW
open PySem PySem.W PyProof.Rows in
set_option maxRecDepth 100000 in
set_option maxHeartbeats 0 in
theorem PySem.Challenge.cw_pastmill_k04_values_holds : PySem.Challenge.rw_pastmill_k04_values.Holds := by
  w_on; o_law; k_head; (case hw => w_witness2)
  k_fill
  refine L2.walk_ofK (l := PySem.Challenge.rw_pastmill_k04_values) (n := 63) (k := 40) (x := "_law_script") (CX := L2.CX0) (sp := fun K => PV.spW K 1 (PV.evF LW.T.fs 40 1)) rfl (by decide) rfl ⟨rfl, by decide, by decide⟩ (fun w h Y => PySem.W.kIn_of Y) ?F (fun K H a ns hl ho hs => PV.law_sp (LW.main ns hl) ho hs) (fun _ _ _ _ h => h)
  case F =>
    intro w mg fa h KX G hmg
    have F_reckoned : LW.FnIn KX LW.T mg LW.r_reckoned := by
      refine' LW.fa_reckoned KX G ?a ?l ?c ?k; (case a => k_is); (case l => k_is); (case c => k_is); (case k => k_is)
    have F_value : LW.FnIn KX LW.T mg LW.r_value := by
      refine' LW.fa_value KX G ?a ?l ?c ?k; (case a => k_is); (case l => k_is); (case c => k_is); (case k => k_is)
    have F__law_mixed : LW.FnIn KX LW.T mg LW.r__law_mixed := by
      refine' LW.fa__law_mixed KX G ?a ?l ?c ?k; (case a => k_is); (case l => k_is); (case c => k_is); (case k => k_is)
    have F__law_digits : LW.FnIn KX LW.T mg LW.r__law_digits := by
      refine' LW.fa__law_digits KX G ?a ?l ?c ?k; (case a => k_is); (case l => k_is); (case c => k_is); (case k => k_is)
    have F__law_next : LW.FnIn KX LW.T mg LW.r__law_next := by
      refine' LW.fa__law_next KX G ?a ?l ?c ?k; (case a => k_is); (case l => k_is); (case c => k_is); (case k => k_is)
    have F__law_due : LW.FnIn KX LW.T mg LW.r__law_due := by
      refine' LW.fa__law_due KX G ?a ?l ?c ?k; (case a => k_is); (case l => k_is); (case c => k_is); (case k => k_is)
    have F__law_pairs_right : LW.FnIn KX LW.T mg LW.r__law_pairs_right := by
      refine' LW.fa__law_pairs_right KX G ?a ?l ?c ?k; (case a => k_is); (case l => k_is); (case c => k_is); (case k => k_is)
    have C_ROUND : LW.GlIn KX mg "ROUND" (.int 100) := by
      refine' PV.glb_int KX G ?a; (case a => k_is)
    have B_abs : mg "abs" = none := by
      refine' PySem.W.mg_none_of KX G ?z; (case z => k_is)
    have B_bool : mg "bool" = none := by
      refine' PySem.W.mg_none_of KX G ?z; (case z => k_is)
    have B_int : mg "int" = none := by
      refine' PySem.W.mg_none_of KX G ?z; (case z => k_is)
    have B_isinstance : mg "isinstance" = none := by
      refine' PySem.W.mg_none_of KX G ?z; (case z => k_is)
    have B_len : mg "len" = none := by
      refine' PySem.W.mg_none_of KX G ?z; (case z => k_is)
    have B_max : mg "max" = none := by
      refine' PySem.W.mg_none_of KX G ?z; (case z => k_is)
    have B_min : mg "min" = none := by
      refine' PySem.W.mg_none_of KX G ?z; (case z => k_is)
    have B_range : mg "range" = none := by
      refine' PySem.W.mg_none_of KX G ?z; (case z => k_is)
    refine' LW.law_end (l := PySem.Challenge.rw_pastmill_k04_values) KX G hmg F_reckoned F_value F__law_mixed F__law_digits F__law_next F__law_due F__law_pairs_right C_ROUND B_abs B_bool B_int B_isinstance B_len B_max B_min B_range ?a ?l ?c ?k; (case a => k_is); (case l => k_is); (case c => k_is); (case k => k_is)
