import PyProof.Rows.All
import Wide.All
import OpenK.AllK
import Wide.FinOn
import HandS.ForMost
import HandS.Wide
import HandS.Flow
import HandS.IsInst
import HandS.TupAny
import HandS.Deep
import HandS.Zip
import HandS.Style
import PySem.Str
import PySem.Sem
import KE.SortData
import HandS.More
import HandS.Conv
import HandS.TupSets
import HandS.Dict
import HandS.NoneIn
import KE.GoesMore
import KE.GoesZip
import KE.DataMinMax
import PySem.Challenge.RW_seamarks_k23_banks_or_not
section
set_option Elab.async false
set_option linter.all false
set_option maxRecDepth 100000
/-! Dv: values without addresses (O), and what each construct of the text makes of them. No program, no heap. -/
namespace Dv
open PySem (Str)

abbrev Key := Sum Int Str
/-- a value: own tells whether the object belongs to its holder alone -/
inductive O where
  | non | bl (b : Bool) | int (i : Int) | str (x : Str)
  /-- the script -/
  | scr (ns : List Int)
  | tup (xs : List O)
  /-- a tuple of whole numbers that the program's top has made -/
  | kt (ns : List Int)
  /-- a reference held apart: the list itself is in the keeping of a loop -/
  | anc (a : Nat)
  | lst (own : Bool) (xs : List O)
  | dK (own : Bool) (ks : List Key) (vs : List O)
  | dT (own : Bool) (ks : List (List Key)) (vs : List O)
  deriving Inhabited

abbrev Sl := List (Option O)
abbrev SE := Sl → Option O
abbrev SEs := Sl → Option (List O)
abbrev ST := Sl → Option Bool

/-- what a statement does -/
inductive Fl where
  | nx (τ : Sl) | rt (o : O) | bk (τ : Sl) | ct (τ : Sl)
abbrev SS := Sl → Option Fl

mutual
/-- nothing of it is held alone -/
@[simp] def frz : O → O
  | .tup xs => .tup (frzs xs)
  | .lst _ xs => .lst false (frzs xs)
  | .dK _ ks vs => .dK false ks (frzs vs)
  | .dT _ ks vs => .dT false ks (frzs vs)
  | o => o
@[simp] def frzs : List O → List O
  | [] => []
  | x :: xs => frz x :: frzs xs
end
mutual
/-- no object in it that may be changed -/
@[simp] def flat : O → Bool
  | .tup xs => flats xs
  | .lst _ _ => false
  | .dK _ _ _ => false
  | .dT _ _ _ => false
  | _ => true
@[simp] def flats : List O → Bool
  | [] => true
  | x :: xs => flat x && flats xs
end
mutual
/-- each object in it that may be changed is its own -/
@[simp] def clean : O → Bool
  | .tup xs => cleans xs
  | .lst own xs => own && cleans xs
  | .dK own _ vs => own && cleans vs
  | .dT own _ vs => own && cleans vs
  | _ => true
@[simp] def cleans : List O → Bool
  | [] => true
  | x :: xs => clean x && cleans xs
end
theorem frzs_eq : ∀ xs : List O, frzs xs = xs.map frz
  | [] => rfl
  | x :: xs => by show frz x :: frzs xs = _; rw [frzs_eq xs]; rfl
theorem flats_eq : ∀ xs : List O, flats xs = xs.all flat
  | [] => rfl
  | x :: xs => by show (flat x && flats xs) = _; rw [flats_eq xs]; rfl
theorem cleans_eq : ∀ xs : List O, cleans xs = xs.all clean
  | [] => rfl
  | x :: xs => by show (clean x && cleans xs) = _; rw [cleans_eq xs]; rfl
mutual
theorem frz_flat : ∀ {o : O}, flat o = true → frz o = o
  | .non, _ => rfl
  | .bl _, _ => rfl
  | .int _, _ => rfl
  | .str _, _ => rfl
  | .scr _, _ => rfl
  | .anc _, _ => rfl
  | .kt _, _ => rfl
  | .tup xs, h => by show O.tup (frzs xs) = _; rw [frzs_flat h]
  | .lst _ _, h => nomatch h
  | .dK _ _ _, h => nomatch h
  | .dT _ _ _, h => nomatch h
theorem frzs_flat : ∀ {xs : List O}, flats xs = true → frzs xs = xs
  | [], _ => rfl
  | x :: xs, h => by
    have h' : (flat x && flats xs) = true := h
    rw [Bool.and_eq_true] at h'
    show frz x :: frzs xs = _
    rw [frz_flat h'.1, frzs_flat h'.2]
end
mutual
theorem frz_frz : ∀ o : O, frz (frz o) = frz o
  | .non => rfl
  | .bl _ => rfl
  | .int _ => rfl
  | .str _ => rfl
  | .scr _ => rfl
  | .anc _ => rfl
  | .kt _ => rfl
  | .tup xs => by show O.tup (frzs (frzs xs)) = .tup (frzs xs); rw [frzs_frzs xs]
  | .lst _ xs => by show O.lst false (frzs (frzs xs)) = .lst false (frzs xs); rw [frzs_frzs xs]
  | .dK _ ks vs => by show O.dK false ks (frzs (frzs vs)) = .dK false ks (frzs vs); rw [frzs_frzs vs]
  | .dT _ ks vs => by show O.dT false ks (frzs (frzs vs)) = .dT false ks (frzs vs); rw [frzs_frzs vs]
theorem frzs_frzs : ∀ xs : List O, frzs (frzs xs) = frzs xs
  | [] => rfl
  | x :: xs => by show frz (frz x) :: frzs (frzs xs) = _; rw [frz_frz x, frzs_frzs xs]; rfl
end

/-! ### the slots -/
@[simp] def get (i : Nat) : SE := fun τ => match τ[i]? with
  | some (some o) => some o
  | _ => none
/-- read: a view -/
@[simp] def xV (i : Nat) : SE := fun τ => (get i τ).map frz
@[simp] def xC (o : O) : SE := fun _ => some o
/-- the slots at is are no longer held alone -/
@[simp] def frzSlot : Option O → Option O
  | some o => some (frz o)
  | none => none
@[simp] def frz1 (i : Nat) (τ : Sl) : Sl := match τ[i]? with
  | some s => τ.set i (frzSlot s)
  | none => τ
@[simp] def frzAt : List Nat → Sl → Sl
  | [], τ => τ
  | i :: is, τ => frzAt is (frz1 i τ)
/-- the value o goes into slot i, made by reading the slots ns -/
@[simp] def put (ns : List Nat) (i : Nat) (o : O) (τ : Sl) : Sl := (if clean o then τ else frzAt ns τ).set i (some o)

/-! ### numbers -/
def mulOk (i j : Int) : Bool := decide (i.natAbs.log2 + j.natAbs.log2 < 1000000)
def divOk (j : Int) : Bool := decide (0 < j) && decide (j.natAbs.log2 < 9000)
def powOk (i j : Int) : Bool := decide (0 ≤ j) && decide (j ≤ 1000) && decide (i.natAbs < 2 ^ 64)
def sLine : Nat := 16777216
@[simp] def addD : O → O → Option O
  | .int i, .int j => some (.int (i + j))
  | .int i, .bl b => some (.int (i + (if b then 1 else 0)))
  | .tup xs, .tup ys => if xs.length + ys.length ≤ sLine then some (.tup (xs ++ ys)) else none
  | .lst _ xs, .lst _ ys => if xs.length + ys.length ≤ sLine then some (.lst true (frzs xs ++ frzs ys)) else none
  | .str x, .str y => if x.length + y.length ≤ sLine then some (.str (x ++ y)) else none
  | _, _ => none
@[simp] def subD : O → O → Option O
  | .int i, .int j => some (.int (i - j))
  | _, _ => none
@[simp] def mulD : O → O → Option O
  | .int i, .int j => if mulOk i j then some (.int (i * j)) else none
  | _, _ => none
@[simp] def fdivD : O → O → Option O
  | .int i, .int j => if divOk j then some (.int (i / j)) else none
  | _, _ => none
@[simp] def modD : O → O → Option O
  | .int i, .int j => if 0 < j then some (.int (i % j)) else none
  | _, _ => none
@[simp] def powD : O → O → Option O
  | .int i, .int j => if powOk i j then some (.int (i ^ j.toNat)) else none
  | _, _ => none
@[simp] def negD : O → Option O
  | .int i => some (.int (-i))
  | _ => none
@[simp] def x2 (f : O → O → Option O) (a b : SE) : SE := fun τ => (a τ).bind fun x => (b τ).bind fun y => f x y
@[simp] def x1 (f : O → Option O) (a : SE) : SE := fun τ => (a τ).bind f

/-! ### lists of expressions -/
@[simp] def xsN : SEs := fun _ => some []
@[simp] def xsC (a : SE) (r : SEs) : SEs := fun τ => (a τ).bind fun x => (r τ).bind fun xs => some (x :: xs)
@[simp] def xTup (r : SEs) : SE := fun τ => (r τ).bind fun xs => if xs.length ≤ sLine then some (.tup xs) else none
@[simp] def xLst (r : SEs) : SE := fun τ => (r τ).bind fun xs => if xs.length ≤ sLine then some (.lst true xs) else none
@[simp] def xCall (f : List O → Option O) (r : SEs) : SE := fun τ => (r τ).bind fun xs => f (frzs xs)

/-! ### tests -/
@[simp] def asB : O → Option Bool
  | .bl b => some b
  | _ => none
@[simp] def tOf (a : SE) : ST := fun τ => (a τ).bind asB
@[simp] def tNot (a : ST) : ST := fun τ => (a τ).bind fun b => some (!b)
@[simp] def tAnd (a b : ST) : ST := fun τ => (a τ).bind fun x => if x then b τ else some false
@[simp] def tOr (a b : ST) : ST := fun τ => (a τ).bind fun x => if x then some true else b τ
@[simp] def xB (a : ST) : SE := fun τ => (a τ).bind fun b => some (.bl b)
@[simp] def xIf (c : ST) (a b : SE) : SE := fun τ => (c τ).bind fun x => if x then a τ else b τ
@[simp] def cmpI (p : Int → Int → Bool) : O → O → Option O
  | .int i, .int j => some (.bl (p i j))
  | _, _ => none
@[simp] def ltD (x y : O) : Option O := cmpI (fun i j => decide (i < j)) x y
@[simp] def leD (x y : O) : Option O := cmpI (fun i j => decide (i ≤ j)) x y
@[simp] def gtD (x y : O) : Option O := cmpI (fun i j => decide (j < i)) x y
@[simp] def geD (x y : O) : Option O := cmpI (fun i j => decide (j ≤ i)) x y

/-- and, or, not as values -/
@[simp] def xAnd (a b : SE) : SE := fun τ => (tOf a τ).bind fun k => if k then b τ else some (.bl false)
@[simp] def xOr (a b : SE) : SE := fun τ => (tOf a τ).bind fun k => if k then some (.bl true) else b τ
@[simp] def xNot (a : SE) : SE := fun τ => (tOf a τ).bind fun k => some (.bl (!k))
/-! ### statements -/
@[simp] def sN : SS := fun τ => some (.nx τ)
@[simp] def sSeq (a b : SS) : SS := fun τ => match a τ with
  | some (.nx τ') => b τ'
  | r => r
@[simp] def sSet (ns : List Nat) (i : Nat) (a : SE) : SS := fun τ => (a τ).bind fun o => some (.nx (put ns i o τ))
@[simp] def sRet (a : SE) : SS := fun τ => (a τ).bind fun o => some (.rt o)
/-- return of a name: it goes with all that it holds alone -/
@[simp] def sRetV (i : Nat) : SS := fun τ => (get i τ).bind fun o => some (.rt o)
@[simp] def sIf (c : ST) (a b : SS) : SS := fun τ => (c τ).bind fun x => if x then a τ else b τ
@[simp] def sBk : SS := fun τ => some (.bk τ)
@[simp] def sCt : SS := fun τ => some (.ct τ)

/-- n turns at most -/
def whlN (c : ST) (b : SS) : Nat → SS
  | 0, _ => none
  | n + 1, τ => match c τ with
    | none => none
    | some false => some (.nx τ)
    | some true => match b τ with
      | some (.nx τ') => whlN c b n τ'
      | some (.ct τ') => whlN c b n τ'
      | some (.bk τ') => some (.nx τ')
      | some (.rt o) => some (.rt o)
      | none => none
open Classical in
noncomputable def sWhl (c : ST) (b : SS) : SS := fun τ => if h : ∃ r n, whlN c b n τ = some r then some h.choose else none
theorem whlN_mono (c : ST) (b : SS) : ∀ (n : Nat) (τ : Sl) (r : Fl), whlN c b n τ = some r → whlN c b (n + 1) τ = some r
  | 0, _, _, h => nomatch h
  | n + 1, τ, r, h => by
    unfold whlN at h ⊢
    cases hc : c τ with
    | none => rw [hc] at h; exact nomatch h
    | some x =>
      rw [hc] at h
      cases x with
      | false => exact h
      | true =>
        simp only at h ⊢
        cases hb : b τ with
        | none => rw [hb] at h; exact nomatch h
        | some f =>
          rw [hb] at h
          cases f with
          | nx τ' => exact whlN_mono c b n τ' r h
          | ct τ' => exact whlN_mono c b n τ' r h
          | bk τ' => exact h
          | rt o => exact h
theorem whlN_le (c : ST) (b : SS) {n : Nat} {τ : Sl} {r : Fl} (h : whlN c b n τ = some r) : ∀ k, whlN c b (n + k) τ = some r
  | 0 => h
  | k + 1 => whlN_mono c b (n + k) τ r (whlN_le c b h k)
theorem whlN_det (c : ST) (b : SS) {n m : Nat} {τ : Sl} {r r' : Fl} (h : whlN c b n τ = some r) (h' : whlN c b m τ = some r') : r = r' := by
  have a := whlN_le c b h m
  have a' := whlN_le c b h' n
  rw [Nat.add_comm] at a'
  exact Option.some.inj (a.symm.trans a')
theorem sWhl_of {c : ST} {b : SS} {n : Nat} {τ : Sl} {r : Fl} (h : whlN c b n τ = some r) : sWhl c b τ = some r := by
  have e : ∃ r n, whlN c b n τ = some r := ⟨r, n, h⟩
  unfold sWhl
  rw [dif_pos e]
  obtain ⟨m, hm⟩ := e.choose_spec
  rw [whlN_det c b hm h]
theorem of_sWhl {c : ST} {b : SS} {τ : Sl} {r : Fl} (h : sWhl c b τ = some r) : ∃ n, whlN c b n τ = some r := by
  unfold sWhl at h
  by_cases e : ∃ r n, whlN c b n τ = some r
  · rw [dif_pos e] at h
    obtain ⟨m, hm⟩ := e.choose_spec
    cases h
    exact ⟨m, hm⟩
  · rw [dif_neg e] at h
    exact nomatch h
/-- the end of a while -/
theorem sWhl_end {c : ST} {b : SS} {τ : Sl} (hc : c τ = some false) : sWhl c b τ = some (.nx τ) :=
  sWhl_of (n := 1) (by unfold whlN; rw [hc])
/-- a turn of a while -/
theorem sWhl_turn {c : ST} {b : SS} {τ τ' : Sl} {r : Fl} (hc : c τ = some true) (hb : b τ = some (.nx τ')) (h : sWhl c b τ' = some r) : sWhl c b τ = some r := by
  obtain ⟨n, hn⟩ := of_sWhl h
  exact sWhl_of (n := n + 1) (by unfold whlN; rw [hc]; simp only; rw [hb]; exact hn)

/-- a target -/
abbrev TGd := O → Sl → Option Sl
@[simp] def gN (i : Nat) : TGd := fun o τ => some (τ.set i (some o))
@[simp] def gsN : List O → Sl → Option Sl := fun xs τ => match xs with
  | [] => some τ
  | _ => none
@[simp] def gsC (g : TGd) (r : List O → Sl → Option Sl) : List O → Sl → Option Sl := fun xs τ => match xs with
  | x :: xs => (g x τ).bind fun τ' => r xs τ'
  | [] => none
@[simp] def gT (n : Nat) (r : List O → Sl → Option Sl) : TGd := fun o τ => match o with
  | .tup xs => if xs.length = n then r xs τ else none
  | .kt ns => if ns.length = n then r (ns.map O.int) τ else none
  | _ => none
/-- a for over these items -/
def forD (g : TGd) (b : SS) : List O → SS
  | [], τ => some (.nx τ)
  | x :: xs, τ => (g x τ).bind fun τ1 => match b τ1 with
    | some (.nx τ') => forD g b xs τ'
    | some (.ct τ') => forD g b xs τ'
    | some (.bk τ') => some (.nx τ')
    | some (.rt o) => some (.rt o)
    | none => none
def sFor (ns : List Nat) (it : SEs) (g : TGd) (b : SS) : SS := fun τ => (it τ).bind fun xs => forD g b (frzs xs) (frzAt ns τ)

/-- a def: n parameters, m names -/
@[simp] def fnD (n m : Nat) (b : SS) : List O → Option O := fun os => if os.length = n then
    match b (os.map (fun o => some (frz o)) ++ List.replicate (m - n) none) with
    | some (.rt o) => some o
    | some (.nx _) => some .non
    | _ => none
  else none
/-! ### places, slices, lengths -/
def at? {α : Type} (xs : List α) (i : Int) : Option α := if 0 ≤ i then xs[i.toNat]? else if -(xs.length : Int) ≤ i then xs[(i + xs.length).toNat]? else none
@[simp] def sIx (n d : Nat) : Option Int → Nat
  | none => d
  | some v => if v < 0 then (v + (n : Int)).toNat else min v.toNat n
@[simp] def cut {α : Type} (xs : List α) (lo hi : Option Int) : List α := (xs.drop (sIx xs.length 0 lo)).take (sIx xs.length xs.length hi - sIx xs.length 0 lo)
@[simp] def ixD : O → O → Option O
  | .tup xs, .int i => at? xs i
  | .lst _ xs, .int i => at? xs i
  | .kt ns, .int i => (at? ns i).map O.int
  | _, _ => none
@[simp] def slD (x : O) (lo hi : Option Int) : Option O := match x with
  | .tup xs => some (.tup (cut xs lo hi))
  | .lst _ xs => some (.lst true (cut xs lo hi))
  | .scr ns => some (.lst true ((cut ns lo hi).map O.int))
  | _ => none
@[simp] def isND : O → Option O
  | .non => some (.bl true)
  | .scr _ => none
  | .anc _ => none
  | _ => some (.bl false)
@[simp] def notND : O → Option O
  | .non => some (.bl false)
  | .scr _ => none
  | .anc _ => none
  | _ => some (.bl true)

@[simp] def isN2 (x y : O) : Option O := match y with
  | .non => isND x
  | _ => none
@[simp] def notN2 (x y : O) : Option O := match y with
  | .non => notND x
  | _ => none
abbrev SP := Sl → Option (Option Int)
@[simp] def pN : SP := fun _ => some none
@[simp] def pI (a : SE) : SP := fun τ => (a τ).bind fun x => match x with
  | .int i => some (some i)
  | _ => none
@[simp] def xSl (a : SE) (lo hi : SP) : SE := fun τ => (a τ).bind fun x => (lo τ).bind fun l => (hi τ).bind fun h => slD x l h
def lenD : List O → Option O
  | [.tup xs] => some (.int xs.length)
  | [.lst _ xs] => some (.int xs.length)
  | [.str x] => if x.length ≤ sLine then some (.int x.length) else none
  | [.dK _ ks _] => some (.int ks.length)
  | _ => none
@[simp] def lenD' : List O → Option O
  | [.tup xs] => some (.int xs.length)
  | [.kt ns] => some (.int ns.length)
  | [.lst _ xs] => some (.int xs.length)
  | [.str x] => if x.length ≤ sLine then some (.int x.length) else none
  | _ => none
@[simp] def absD : List O → Option O
  | [.int i] => some (.int (if i < 0 then -i else i))
  | _ => none
@[simp] def intD : List O → Option O
  | [.int i] => some (.int i)
  | [.bl b] => some (.int (if b then 1 else 0))
  | _ => none
@[simp] def maxD : List O → Option O
  | [.int i, .int j] => some (.int (if j > i then j else i))
  | _ => none
@[simp] def minD : List O → Option O
  | [.int i, .int j] => some (.int (if j < i then j else i))
  | _ => none
@[simp] def allB : List O → Option (List Bool)
  | [] => some []
  | x :: xs => (asB x).bind fun b => (allB xs).bind fun bs => some (b :: bs)
@[simp] def allD : List O → Option O
  | [.lst _ xs] => (allB xs).bind fun bs => some (.bl (bs.all id))
  | _ => none
@[simp] def anyD : List O → Option O
  | [.lst _ xs] => (allB xs).bind fun bs => some (.bl (bs.any id))
  | _ => none
@[simp] def listD : List O → Option O
  | [.lst _ xs] => some (.lst true (frzs xs))
  | [.tup xs] => some (.lst true (frzs xs))
  | _ => none
/-- a built-in's call, an operation -/
@[simp] def xF (f : List O → Option O) (r : SEs) : SE := fun τ => (r τ).bind f
/-- the type's name -/
def tyD : O → Option String
  | .non => some "NoneType"
  | .bl _ => some "bool"
  | .int _ => some "int"
  | .str _ => some "str"
  | .tup _ => some "tuple"
  | .kt _ => some "tuple"
  | .lst _ _ => some "list"
  | .dK _ _ _ => some "dict"
  | .dT _ _ _ => some "dict"
  | .scr _ => none
  | .anc _ => none
inductive Ty5 | int | bool | list | tuple | str
def Ty5.name : Ty5 → String
  | .int => "int" | .bool => "bool" | .list => "list" | .tuple => "tuple" | .str => "str"
@[simp] def isiD (T : Ty5) : O → Option O
  | .non => some (.bl false)
  | .bl _ => some (.bl (match T with | .int => true | .bool => true | _ => false))
  | .int _ => some (.bl (match T with | .int => true | _ => false))
  | .str _ => some (.bl (match T with | .str => true | _ => false))
  | .tup _ => some (.bl (match T with | .tuple => true | _ => false))
  | .kt _ => some (.bl (match T with | .tuple => true | _ => false))
  | .lst _ _ => some (.bl (match T with | .list => true | _ => false))
  | .dK _ _ _ => some (.bl false)
  | .dT _ _ _ => some (.bl false)
  | .scr _ => none
  | .anc _ => none

/-! ### data compared -/
@[simp] def eqK : List Int → List O → Bool
  | [], [] => true
  | i :: is, .int j :: xs => i == j && eqK is xs
  | i :: is, .bl b :: xs => i == (if b then 1 else 0) && eqK is xs
  | _, _ => false
@[simp] def eqK' : List O → List Int → Bool
  | [], [] => true
  | .int j :: xs, i :: is => j == i && eqK' xs is
  | .bl b :: xs, i :: is => (if b then 1 else 0) == i && eqK' xs is
  | _, _ => false
@[simp] def eqKK : List Int → List Int → Bool
  | [], [] => true
  | i :: is, j :: js => i == j && eqKK is js
  | _, _ => false
mutual
@[simp] def eqo : O → O → Bool
  | .non, .non => true
  | .bl a, .bl b => a == b
  | .bl a, .int j => (if a then 1 else 0) == j
  | .int i, .bl b => i == (if b then 1 else 0)
  | .int i, .int j => i == j
  | .str x, .str y => x == y
  | .lst _ xs, .lst _ ys => eqos xs ys
  | .tup xs, .tup ys => eqos xs ys
  | .kt is, .tup ys => eqK is ys
  | .tup xs, .kt js => eqK' xs js
  | .kt is, .kt js => eqKK is js
  | _, _ => false
@[simp] def eqos : List O → List O → Bool
  | [], [] => true
  | x :: xs, y :: ys => eqo x y && eqos xs ys
  | [], _ :: _ => false
  | _ :: _, [] => false
end
def strOkD (x : Str) : Bool := x.cps.all (· < 0x110000)
/-- of depth n at most, without dicts -/
@[simp] def shO : Nat → O → Bool
  | _, .non => true
  | _, .bl _ => true
  | _, .int _ => true
  | _, .str x => strOkD x
  | n + 1, .tup xs => xs.all (shO n)
  | _ + 1, .kt _ => true
  | n + 1, .lst _ xs => xs.all (shO n)
  | _, _ => false
@[simp] def eqD (x y : O) : Option O := if shO 20 x && shO 20 y then some (.bl (eqo x y)) else none
@[simp] def neD (x y : O) : Option O := if shO 20 x && shO 20 y then some (.bl (!eqo x y)) else none
/-! ### what changes a list that a slot holds alone -/
/-- xs.append(e), e made by reading ns -/
@[simp] def sApp (ns : List Nat) (i : Nat) (a : SE) : SS := fun τ => (a τ).bind fun o =>
  let τ1 := if clean o then τ else frzAt ns τ
  match τ1[i]? with
  | some (some (.lst true xs)) => if xs.length < sLine then some (.nx (τ1.set i (some (.lst true (xs ++ [o]))))) else none
  | _ => none

/-! ### walks -/
@[simp] def itL (a : SE) : SEs := fun τ => (a τ).bind fun x => match x with
  | .lst _ xs => some xs
  | .tup xs => some xs
  | .kt ns => some (ns.map O.int)
  | _ => none
@[simp] def rngL (lo : Int) : Nat → List O
  | 0 => []
  | n + 1 => .int lo :: rngL (lo + 1) n
@[simp] def itR1 (a : SE) : SEs := fun τ => (a τ).bind fun x => match x with
  | .int j => if -(2 ^ 62) ≤ j ∧ j < 2 ^ 62 then some (rngL 0 j.toNat) else none
  | _ => none
@[simp] def itR2 (a b : SE) : SEs := fun τ => (a τ).bind fun x => (b τ).bind fun y => match x, y with
  | .int i, .int j => if -(2 ^ 62) ≤ i ∧ i < 2 ^ 62 ∧ -(2 ^ 62) ≤ j ∧ j < 2 ^ 62 then some (rngL i (j - i).toNat) else none
  | _, _ => none
@[simp] def zipL : List O → List O → List O
  | x :: xs, y :: ys => .tup [x, y] :: zipL xs ys
  | _, _ => []
@[simp] def zipO : O → O → Option (List O)
  | .lst _ xs, .lst _ ys => some (zipL xs ys)
  | .tup xs, .tup ys => some (zipL xs ys)
  | .lst _ xs, .tup ys => some (zipL xs ys)
  | .kt ns, .tup ys => some (zipL (ns.map O.int) ys)
  | .tup xs, .kt ms => some (zipL xs (ms.map O.int))
  | _, _ => none
@[simp] def itZ (a b : SE) : SEs := fun τ => (a τ).bind fun x => (b τ).bind fun y => zipO x y
@[simp] def enuL (i : Nat) : List O → List O
  | [] => []
  | x :: xs => .tup [.int i, x] :: enuL (i + 1) xs
@[simp] def enuO : O → Option (List O)
  | .lst _ xs => some (enuL 0 xs)
  | _ => none
@[simp] def itEn (a : SE) : SEs := fun τ => (a τ).bind enuO
/-- [e for g in xs if t] -/
def lcD (g : TGd) (t : ST) (e : SE) : List O → Sl → Option (List O)
  | [], _ => some []
  | x :: xs, τ => (g x τ).bind fun τ1 => (t τ1).bind fun b => if b then (e τ1).bind fun o => (lcD g t e xs τ).bind fun os => some (o :: os) else lcD g t e xs τ
@[simp] def wipeD : List Nat → Sl → Sl
  | [], τ => τ
  | i :: is, τ => (wipeD is τ).set i none
/-- the slots ns as views, the others out of reach -/
@[simp] def keepD (ns : List Nat) : Nat → Sl → Sl
  | _, [] => []
  | i, s :: τ => (if ns.contains i then frzSlot s else none) :: keepD ns (i + 1) τ
def xLc (ns vs : List Nat) (it : SEs) (g : TGd) (t : ST) (e : SE) : SE := fun τ => (it τ).bind fun xs => if xs.length ≤ sLine then (lcD g t e (frzs xs) (wipeD vs (keepD ns 0 τ))).bind fun os => some (.lst true os) else none
@[simp] def tY : ST := fun _ => some true
/-- a, b = e -/
@[simp] def sAsg (ns : List Nat) (a : SE) (g : TGd) : SS := fun τ => (a τ).bind fun o => (g (frz o) (if clean o then τ else frzAt ns τ)).bind fun τ' => some (.nx τ')
/-- a, b = e1, e2: stored from the right -/
@[simp] def sPar (ns : List Nat) (i j : Nat) (r : SEs) : SS := fun τ => (r τ).bind fun xs => match xs with
  | [x, y] => some (.nx (((if cleans xs then τ else frzAt ns τ).set i (some (frz x))).set j (some (frz y))))
  | _ => none
@[simp] def sPar3 (ns : List Nat) (i j l : Nat) (r : SEs) : SS := fun τ => (r τ).bind fun xs => match xs with
  | [x, y, z] => some (.nx ((((if cleans xs then τ else frzAt ns τ).set i (some (frz x))).set j (some (frz y))).set l (some (frz z))))
  | _ => none
/-- x += e, whole numbers -/
@[simp] def sAugI (i : Nat) (f : O → O → Option O) (a : SE) : SS := fun τ => (get i τ).bind fun x => (a τ).bind fun y => match x, y with
  | .int p, .int q => (f (.int p) (.int q)).bind fun o => some (.nx (τ.set i (some (frz o))))
  | _, _ => none
/-- an expression dropped -/
@[simp] def sDrop (a : SE) : SS := fun τ => (a τ).bind fun _ => some (.nx τ)
end Dv

end
section
set_option Elab.async false
set_option linter.all false
set_option maxRecDepth 100000
/-! Du: more constructs of the text: dicts with tuples for keys, sorted, what changes a list of flat items. -/
namespace Dv
open PySem (Str)
def keyI : O → Option Key
  | .int i => some (.inl i)
  | .str x => some (.inr x)
  | _ => none
def keyL : List O → Option (List Key)
  | [] => some []
  | x :: xs => (keyI x).bind fun k => (keyL xs).bind fun ks => some (k :: ks)
def keyV : Key → O
  | .inl i => .int i
  | .inr x => .str x
/-- the tuple that is a key -/
def keyT (k : List Key) : O := .tup (k.map keyV)
/-- {} -/
@[simp] def xDnew : SE := fun _ => some (.dT true [] [])
/-- the keys and values behind d[k] = o -/
def dput (ks : List (List Key)) (vs : List O) (k : List Key) (o : O) : List (List Key) × List O :=
  if (ks.any fun k' => decide (k' = k)) = true then (ks, List.zipWith (fun k' v => if k' = k then o else v) ks vs) else (ks ++ [k], vs ++ [o])
/-- d[k] = v, d a slot -/
def sDput (i : Nat) (k v : SE) : SS := fun τ => (v τ).bind fun o => (k τ).bind fun x => match x, τ[i]? with
  | .tup xs, some (some (.dT true ks vs)) => if flat o = true ∧ flats vs = true ∧ ks.length = vs.length ∧ ks.length < sLine then (keyL xs).bind fun kk => some (.nx (τ.set i (some (.dT true (dput ks vs kk o).1 (dput ks vs kk o).2)))) else none
  | _, _ => none
/-- list(x), a dict's keys too -/
def listE : List O → Option O
  | [.lst _ xs] => some (.lst true (frzs xs))
  | [.tup xs] => some (.lst true (frzs xs))
  | [.dT _ ks _] => some (.lst true (ks.map keyT))
  | _ => none
def asIs : List O → Option (List Int)
  | [] => some []
  | .int i :: xs => (asIs xs).bind fun is => some (i :: is)
  | _ :: _ => none
def asT : O → Option (List Int)
  | .tup xs => (asIs xs).bind fun is => if is = [] then none else some is
  | _ => none
def asTs : List O → Option (List (List Int))
  | [] => some []
  | x :: xs => (asT x).bind fun t => (asTs xs).bind fun ts => some (t :: ts)
def tupI (ns : List Int) : O := .tup (ns.map O.int)
def leI (p q : List Int) : Bool := decide (p ≤ q)
/-- sorted(xs), xs a list of tuples of ints -/
def sortE : List O → Option O
  | [.lst _ xs] => (asTs xs).bind fun bs => some (.lst true ((bs.mergeSort leI).map tupI))
  | _ => none
/-- a method of the list at slot i, items and arguments flat -/
def sMet (h : List O → List O → Option (List O)) (i : Nat) (r : SEs) : SS := fun τ => (r τ).bind fun os => match τ[i]? with
  | some (some (.lst true xs)) => if flats xs = true ∧ flats os = true then (h xs os).bind fun ys => some (.nx (τ.set i (some (.lst true ys)))) else none
  | _ => none
def mIns (xs : List O) : List O → Option (List O)
  | [.int k, y] => if 0 ≤ k ∧ k < 2 ^ 62 ∧ xs.length < sLine then some (xs.take k.toNat ++ [y] ++ xs.drop k.toNat) else none
  | _ => none
def mPopAt (xs : List O) : List O → Option (List O)
  | [.int k] => if 0 ≤ k ∧ k.toNat < xs.length ∧ k < 2 ^ 62 then some (xs.eraseIdx k.toNat) else none
  | _ => none
def mPop (xs : List O) : List O → Option (List O)
  | [] => if 0 < xs.length then some xs.dropLast else none
  | _ => none
def mRev (xs : List O) : List O → Option (List O)
  | [] => some xs.reverse
  | _ => none
def mClr (xs : List O) : List O → Option (List O)
  | [] => some []
  | _ => none
/-- xs[a] = b, at slot i -/
def sSetIx (i : Nat) (a b : SE) : SS := fun τ => (b τ).bind fun o => (a τ).bind fun x => match x, τ[i]? with
  | .int k, some (some (.lst true xs)) => if flat o = true ∧ flats xs = true ∧ 0 ≤ k ∧ k.toNat < xs.length then some (.nx (τ.set i (some (.lst true (xs.set k.toNat o))))) else none
  | _, _ => none
/-- is, is not of True and False -/
def isB2 : O → O → Option O
  | .bl a, .bl b => some (.bl (decide (a = b)))
  | _, _ => none
def notB2 : O → O → Option O
  | .bl a, .bl b => some (.bl (!decide (a = b)))
  | _, _ => none
/-- a op b op c, whole numbers -/
def xCh (p q : Int → Int → Bool) (a b c : SE) : SE := fun τ => (a τ).bind fun x => (b τ).bind fun y => match x, y with
  | .int i, .int j => if p i j = true then (c τ).bind fun z => cmpI q (.int j) z else some (.bl false)
  | _, _ => none
end Dv

end
section
set_option Elab.async false
set_option linter.all false
set_option maxRecDepth 100000
/-! Dj: how an abstract heap bears the values of Dv; the judgements over the layer. -/
namespace Dv
open PySem PySem.Spec L2
open PyProof.Rows hiding St

/-- a tuple of the written part -/
def KTup (K : PySem.W.Frag) (a : Addr) (xs : List V) : Prop := ∃ (o : Obj) (its : Array Value) (n : Nat), K.lookup a = some o ∧ o.cls = .type "tuple" ∧ o.data = .seq its n ∧ its.size ≤ sizeLine ∧ Vals xs its.toList
theorem KTup.sq {K : PySem.W.Frag} {a : Addr} {xs : List V} (h : KTup K a xs) (H : Hp) : SqT K H a xs := .inr h
/-- the script: a list wherever what is known to the object stays known -/
def ScrAt (K : PySem.W.Frag) (H : Hp) (a : Addr) (xs : List V) : Prop := ∀ H' : Hp, (∀ o u, H a = some (.frz o u) → H' a = some (.frz o u)) → SqL K H' a xs
mutual
/-- v stands for o in H; B: what no shared part touches; F: the objects held alone -/
def Rp (K : PySem.W.Frag) (H : Hp) (B : Addr → Prop) : O → V → List Addr → Prop
  | .non, v, F => v = .non ∧ F = []
  | .bl b, v, F => v = .bl b ∧ F = []
  | .int i, v, F => v = .int i ∧ F = []
  | .str x, v, F => v = .str x ∧ F = []
  | .scr ns, v, F => ∃ a, v = .ref a ∧ F = [] ∧ ScrAt K H a (ns.map V.int)
  | .anc a, v, F => v = .ref a ∧ F = []
  | .kt ns, v, F => ∃ a, v = .ref a ∧ F = [] ∧ KTup K a (ns.map V.int)
  | .tup os, v, F => ∃ a vs, v = .ref a ∧ H a = some (.tup vs) ∧ Rps K H B os vs F
  | .lst false os, v, F => ∃ a vs, v = .ref a ∧ H a = some (.lst vs) ∧ ¬ B a ∧ F = [] ∧ Rps K H B os vs []
  | .lst true os, v, F => ∃ a vs G, v = .ref a ∧ H a = some (.lst vs) ∧ F = a :: G ∧ Rps K H B os vs G
  | .dK false ks os, v, F => ∃ a kvs, v = .ref a ∧ Rd H a (.dK kvs) ∧ ¬ B a ∧ F = [] ∧ kvs.map (·.1) = ks ∧ Rps K H B os (kvs.map (·.2)) []
  | .dK true ks os, v, F => ∃ a kvs G, v = .ref a ∧ H a = some (.dK kvs) ∧ F = a :: G ∧ kvs.map (·.1) = ks ∧ Rps K H B os (kvs.map (·.2)) G
  | .dT false ks os, v, F => ∃ a kvs, v = .ref a ∧ H a = some (.dT kvs) ∧ ¬ B a ∧ F = [] ∧ kvs.map (·.1) = ks ∧ Rps K H B os (kvs.map (·.2)) []
  | .dT true ks os, v, F => ∃ a kvs G, v = .ref a ∧ H a = some (.dT kvs) ∧ F = a :: G ∧ kvs.map (·.1) = ks ∧ Rps K H B os (kvs.map (·.2)) G
def Rps (K : PySem.W.Frag) (H : Hp) (B : Addr → Prop) : List O → List V → List Addr → Prop
  | [], vs, F => vs = [] ∧ F = []
  | o :: os, vs, F => ∃ v vr F1 F2, vs = v :: vr ∧ F = F1 ++ F2 ∧ Rp K H B o v F1 ∧ Rps K H B os vr F2
end
/-- all but B stands -/
def Ext (B : Addr → Prop) (H H' : Hp) : Prop := ∀ a o, ¬ B a → H a = some o → H' a = some o
theorem Ext.of {B : Addr → Prop} {H H' : Hp} (h : Same H H') : Ext B H H' := fun a o _ e => h a o e
theorem Ext.trans {B : Addr → Prop} {H H1 H2 : Hp} (a : Ext B H H1) (b : Ext B H1 H2) : Ext B H H2 := fun x o n e => b x o n (a x o n e)
theorem Ext.mono {B B' : Addr → Prop} {H H' : Hp} (a : Ext B H H') (h : ∀ x, B x → B' x) : Ext B' H H' := fun x o n e => a x o (fun z => n (h x z)) e
/-- what B holds may be changed -/
def MutB (B : Addr → Prop) (H : Hp) : Prop := ∀ a, B a → Mut (H a)
theorem mut_notup {H : Hp} {a : Addr} (h : Mut (H a)) (xs : List V) : ¬ Rd H a (.tup xs) := fun r => by
  rcases r with r | ⟨o, r⟩ <;> rw [r] at h <;> exact h
theorem rd_ext {B : Addr → Prop} {H H' : Hp} {a : Addr} {u : HO} (e : Ext B H H') (n : ¬ B a) (h : Rd H a u) : Rd H' a u := by
  rcases h with h | ⟨o, h⟩
  · exact .inl (e _ _ n h)
  · exact .inr ⟨o, e _ _ n h⟩
theorem scr_ext {K : PySem.W.Frag} {B : Addr → Prop} {H H' : Hp} {a : Addr} {xs : List V} (e : Ext B H H') (t : MutB B H) (h : ScrAt K H a xs) : ScrAt K H' a xs := fun H2 k =>
  h H2 fun o u q => k o u (e a _ (fun z => by have m := t a z; rw [q] at m; exact m) q)
theorem sqt_ext {K : PySem.W.Frag} {B : Addr → Prop} {H H' : Hp} {a : Addr} {xs : List V} (e : Ext B H H') (t : MutB B H) (h : SqT K H a xs) : SqT K H' a xs := by
  rcases h with h | h
  · exact .inl (rd_ext e (fun b => mut_notup (t a b) xs h) h)
  · exact .inr h
mutual
/-- the shared parts stand where all but B stands; the own ones are told to stand -/
theorem Rp.ext {K : PySem.W.Frag} {B C : Addr → Prop} {H H' : Hp} (e : Ext C H H') (t : MutB C H) (bc : ∀ a, C a → B a) : ∀ {o : O} {v : V} {F : List Addr}, (∀ a ∈ F, ∀ u, H a = some u → H' a = some u) → Rp K H B o v F → Rp K H' B o v F
  | .non, _, _, _, h => h
  | .bl _, _, _, _, h => h
  | .int _, _, _, _, h => h
  | .str _, _, _, _, h => h
  | .anc _, _, _, _, h => h
  | .scr ns, v, F, k, h => by
    obtain ⟨a, h1, h2, h3⟩ := h
    exact ⟨a, h1, h2, scr_ext e t h3⟩
  | .kt _, _, _, _, h => h
  | .tup os, v, F, k, h => by
    obtain ⟨a, vs, h1, h2, h3⟩ := h
    exact ⟨a, vs, h1, e _ _ (fun z => by have m := t a z; rw [h2] at m; exact m) h2, Rps.ext e t bc k h3⟩
  | .lst false os, v, F, k, h => by
    obtain ⟨a, vs, h1, h2, h3, h4, h5⟩ := h
    exact ⟨a, vs, h1, e _ _ (fun z => h3 (bc _ z)) h2, h3, h4, Rps.ext e t bc (F := []) (fun a z => nomatch z) h5⟩
  | .lst true os, v, F, k, h => by
    obtain ⟨a, vs, G, h1, h2, rfl, h4⟩ := h
    exact ⟨a, vs, G, h1, k a (List.mem_cons_self) _ h2, rfl, Rps.ext e t bc (fun b z => k b (List.mem_cons_of_mem _ z)) h4⟩
  | .dK false ks os, v, F, k, h => by
    obtain ⟨a, vs, h1, h2, h3, h4, h5, h6⟩ := h
    exact ⟨a, vs, h1, rd_ext e (fun z => h3 (bc _ z)) h2, h3, h4, h5, Rps.ext e t bc (F := []) (fun a z => nomatch z) h6⟩
  | .dK true ks os, v, F, k, h => by
    obtain ⟨a, vs, G, h1, h2, rfl, h4, h5⟩ := h
    exact ⟨a, vs, G, h1, k a (List.mem_cons_self) _ h2, rfl, h4, Rps.ext e t bc (fun b z => k b (List.mem_cons_of_mem _ z)) h5⟩
  | .dT false ks os, v, F, k, h => by
    obtain ⟨a, vs, h1, h2, h3, h4, h5, h6⟩ := h
    exact ⟨a, vs, h1, e _ _ (fun z => h3 (bc _ z)) h2, h3, h4, h5, Rps.ext e t bc (F := []) (fun a z => nomatch z) h6⟩
  | .dT true ks os, v, F, k, h => by
    obtain ⟨a, vs, G, h1, h2, rfl, h4, h5⟩ := h
    exact ⟨a, vs, G, h1, k a (List.mem_cons_self) _ h2, rfl, h4, Rps.ext e t bc (fun b z => k b (List.mem_cons_of_mem _ z)) h5⟩
theorem Rps.ext {K : PySem.W.Frag} {B C : Addr → Prop} {H H' : Hp} (e : Ext C H H') (t : MutB C H) (bc : ∀ a, C a → B a) : ∀ {os : List O} {vs : List V} {F : List Addr}, (∀ a ∈ F, ∀ u, H a = some u → H' a = some u) → Rps K H B os vs F → Rps K H' B os vs F
  | [], _, _, _, h => h
  | o :: os, vs, F, k, h => by
    obtain ⟨v, vr, F1, F2, h1, h2, h3, h4⟩ := h
    subst h2
    exact ⟨v, vr, F1, F2, h1, rfl, Rp.ext e t bc (fun a z => k a (List.mem_append_left _ z)) h3, Rps.ext e t bc (fun a z => k a (List.mem_append_right _ z)) h4⟩
end
theorem noB {H : Hp} : MutB (fun _ => False) H := fun _ z => z.elim
theorem Rp.same {K : PySem.W.Frag} {B : Addr → Prop} {H H' : Hp} (e : Same H H') {o : O} {v : V} {F : List Addr} (h : Rp K H B o v F) : Rp K H' B o v F :=
  h.ext (C := fun _ => False) (Ext.of e) noB (fun _ z => z.elim) fun a _ u q => e a u q
theorem Rps.same {K : PySem.W.Frag} {B : Addr → Prop} {H H' : Hp} (e : Same H H') {o : List O} {v : List V} {F : List Addr} (h : Rps K H B o v F) : Rps K H' B o v F :=
  h.ext (C := fun _ => False) (Ext.of e) noB (fun _ z => z.elim) fun a _ u q => e a u q
mutual
/-- another B -/
theorem Rp.avoid {K : PySem.W.Frag} {B B' : Addr → Prop} {H : Hp} (e : ∀ a, H a ≠ none → ¬ B a → ¬ B' a) : ∀ {o : O} {v : V} {F : List Addr}, Rp K H B o v F → Rp K H B' o v F
  | .non, _, _, h => h
  | .bl _, _, _, h => h
  | .int _, _, _, h => h
  | .str _, _, _, h => h
  | .anc _, _, _, h => h
  | .scr _, _, _, h => h
  | .kt _, _, _, h => h
  | .tup os, v, F, h => by
    obtain ⟨a, vs, h1, h2, h3⟩ := h
    exact ⟨a, vs, h1, h2, Rps.avoid e h3⟩
  | .lst false os, v, F, h => by
    obtain ⟨a, vs, h1, h2, h3, h4, h5⟩ := h
    exact ⟨a, vs, h1, h2, e a (by rw [h2]; simp) h3, h4, Rps.avoid e h5⟩
  | .lst true os, v, F, h => by
    obtain ⟨a, vs, G, h1, h2, rfl, h4⟩ := h
    exact ⟨a, vs, G, h1, h2, rfl, Rps.avoid e h4⟩
  | .dK false ks os, v, F, h => by
    obtain ⟨a, vs, h1, h2, h3, h4, h5, h6⟩ := h
    refine ⟨a, vs, h1, h2, e a ?_ h3, h4, h5, Rps.avoid e h6⟩
    rcases h2 with h2 | ⟨u, h2⟩ <;> rw [h2] <;> simp
  | .dK true ks os, v, F, h => by
    obtain ⟨a, vs, G, h1, h2, rfl, h4, h5⟩ := h
    exact ⟨a, vs, G, h1, h2, rfl, h4, Rps.avoid e h5⟩
  | .dT false ks os, v, F, h => by
    obtain ⟨a, vs, h1, h2, h3, h4, h5, h6⟩ := h
    exact ⟨a, vs, h1, h2, e a (by rw [h2]; simp) h3, h4, h5, Rps.avoid e h6⟩
  | .dT true ks os, v, F, h => by
    obtain ⟨a, vs, G, h1, h2, rfl, h4, h5⟩ := h
    exact ⟨a, vs, G, h1, h2, rfl, h4, Rps.avoid e h5⟩
theorem Rps.avoid {K : PySem.W.Frag} {B B' : Addr → Prop} {H : Hp} (e : ∀ a, H a ≠ none → ¬ B a → ¬ B' a) : ∀ {os : List O} {vs : List V} {F : List Addr}, Rps K H B os vs F → Rps K H B' os vs F
  | [], _, _, h => h
  | o :: os, vs, F, h => by
    obtain ⟨v, vr, F1, F2, h1, h2, h3, h4⟩ := h
    exact ⟨v, vr, F1, F2, h1, h2, Rp.avoid e h3, Rps.avoid e h4⟩
end
theorem Rp.mono {K : PySem.W.Frag} {B B' : Addr → Prop} {H : Hp} {o : O} {v : V} {F : List Addr} (h : Rp K H B o v F) (e : ∀ a, B' a → B a) : Rp K H B' o v F := h.avoid fun a _ n z => n (e a z)
theorem Rps.mono {K : PySem.W.Frag} {B B' : Addr → Prop} {H : Hp} {os : List O} {vs : List V} {F : List Addr} (h : Rps K H B os vs F) (e : ∀ a, B' a → B a) : Rps K H B' os vs F := h.avoid fun a _ n z => n (e a z)
mutual
/-- clean: no shared part, so any B -/
theorem Rp.clean {K : PySem.W.Frag} {B B' : Addr → Prop} {H : Hp} : ∀ {o : O} {v : V} {F : List Addr}, clean o = true → Rp K H B o v F → Rp K H B' o v F
  | .non, _, _, _, h => h
  | .bl _, _, _, _, h => h
  | .int _, _, _, _, h => h
  | .str _, _, _, _, h => h
  | .anc _, _, _, _, h => h
  | .scr _, _, _, _, h => h
  | .kt _, _, _, _, h => h
  | .tup os, v, F, c, h => by
    obtain ⟨a, vs, h1, h2, h3⟩ := h
    exact ⟨a, vs, h1, h2, Rps.clean c h3⟩
  | .lst false os, v, F, c, h => (by have c' : (false && cleans os) = true := c; simp at c')
  | .lst true os, v, F, c, h => by
    obtain ⟨a, vs, G, h1, h2, rfl, h4⟩ := h
    exact ⟨a, vs, G, h1, h2, rfl, Rps.clean c h4⟩
  | .dK false ks os, v, F, c, h => (by have c' : (false && cleans os) = true := c; simp at c')
  | .dK true ks os, v, F, c, h => by
    obtain ⟨a, vs, G, h1, h2, rfl, h4, h5⟩ := h
    exact ⟨a, vs, G, h1, h2, rfl, h4, Rps.clean c h5⟩
  | .dT false ks os, v, F, c, h => (by have c' : (false && cleans os) = true := c; simp at c')
  | .dT true ks os, v, F, c, h => by
    obtain ⟨a, vs, G, h1, h2, rfl, h4, h5⟩ := h
    exact ⟨a, vs, G, h1, h2, rfl, h4, Rps.clean c h5⟩
theorem Rps.clean {K : PySem.W.Frag} {B B' : Addr → Prop} {H : Hp} : ∀ {os : List O} {vs : List V} {F : List Addr}, cleans os = true → Rps K H B os vs F → Rps K H B' os vs F
  | [], _, _, _, h => h
  | o :: os, vs, F, c, h => by
    obtain ⟨v, vr, F1, F2, h1, h2, h3, h4⟩ := h
    have c' : (Dv.clean o && cleans os) = true := c
    rw [Bool.and_eq_true] at c'
    exact ⟨v, vr, F1, F2, h1, h2, Rp.clean c'.1 h3, Rps.clean c'.2 h4⟩
end
mutual
/-- no longer held alone -/
theorem Rp.frz {K : PySem.W.Frag} {B : Addr → Prop} {H : Hp} : ∀ {o : O} {v : V} {F : List Addr}, (∀ a ∈ F, ¬ B a) → Rp K H B o v F → Rp K H B (frz o) v []
  | .non, _, _, _, h => ⟨h.1, rfl⟩
  | .bl _, _, _, _, h => ⟨h.1, rfl⟩
  | .int _, _, _, _, h => ⟨h.1, rfl⟩
  | .str _, _, _, _, h => ⟨h.1, rfl⟩
  | .anc _, _, _, _, h => ⟨h.1, rfl⟩
  | .scr _, _, _, _, h => by
    obtain ⟨a, h1, h2, h3⟩ := h
    exact ⟨a, h1, rfl, h3⟩
  | .kt _, _, _, _, h => by
    obtain ⟨a, h1, h2, h3⟩ := h
    exact ⟨a, h1, rfl, h3⟩
  | .tup os, v, F, k, h => by
    obtain ⟨a, vs, h1, h2, h3⟩ := h
    exact ⟨a, vs, h1, h2, Rps.frz k h3⟩
  | .lst false os, v, F, k, h => by
    obtain ⟨a, vs, h1, h2, h3, h4, h5⟩ := h
    exact ⟨a, vs, h1, h2, h3, rfl, Rps.frz (F := []) (fun a z => nomatch z) h5⟩
  | .lst true os, v, F, k, h => by
    obtain ⟨a, vs, G, h1, h2, rfl, h4⟩ := h
    exact ⟨a, vs, h1, h2, k a List.mem_cons_self, rfl, Rps.frz (fun b z => k b (List.mem_cons_of_mem _ z)) h4⟩
  | .dK false ks os, v, F, k, h => by
    obtain ⟨a, vs, h1, h2, h3, h4, h5, h6⟩ := h
    exact ⟨a, vs, h1, h2, h3, rfl, h5, Rps.frz (F := []) (fun a z => nomatch z) h6⟩
  | .dK true ks os, v, F, k, h => by
    obtain ⟨a, vs, G, h1, h2, rfl, h4, h5⟩ := h
    exact ⟨a, vs, h1, .inl h2, k a List.mem_cons_self, rfl, h4, Rps.frz (fun b z => k b (List.mem_cons_of_mem _ z)) h5⟩
  | .dT false ks os, v, F, k, h => by
    obtain ⟨a, vs, h1, h2, h3, h4, h5, h6⟩ := h
    exact ⟨a, vs, h1, h2, h3, rfl, h5, Rps.frz (F := []) (fun a z => nomatch z) h6⟩
  | .dT true ks os, v, F, k, h => by
    obtain ⟨a, vs, G, h1, h2, rfl, h4, h5⟩ := h
    exact ⟨a, vs, h1, h2, k a List.mem_cons_self, rfl, h4, Rps.frz (fun b z => k b (List.mem_cons_of_mem _ z)) h5⟩
theorem Rps.frz {K : PySem.W.Frag} {B : Addr → Prop} {H : Hp} : ∀ {os : List O} {vs : List V} {F : List Addr}, (∀ a ∈ F, ¬ B a) → Rps K H B os vs F → Rps K H B (frzs os) vs []
  | [], _, _, _, h => ⟨h.1, rfl⟩
  | o :: os, vs, F, k, h => by
    obtain ⟨v, vr, F1, F2, h1, h2, h3, h4⟩ := h
    subst h2
    exact ⟨v, vr, [], [], h1, rfl, Rp.frz (fun a z => k a (List.mem_append_left _ z)) h3, Rps.frz (fun a z => k a (List.mem_append_right _ z)) h4⟩
end
mutual
/-- what is held alone is tracked -/
theorem Rp.own {K : PySem.W.Frag} {B : Addr → Prop} {H : Hp} : ∀ {o : O} {v : V} {F : List Addr}, Rp K H B o v F → ∀ a ∈ F, Mut (H a)
  | .non, _, _, h => by rw [h.2]; exact fun a z => nomatch z
  | .bl _, _, _, h => by rw [h.2]; exact fun a z => nomatch z
  | .int _, _, _, h => by rw [h.2]; exact fun a z => nomatch z
  | .str _, _, _, h => by rw [h.2]; exact fun a z => nomatch z
  | .anc _, _, _, h => by rw [h.2]; exact fun a z => nomatch z
  | .scr _, _, _, h => by
    obtain ⟨a, h1, h2, h3⟩ := h
    rw [h2]; exact fun a z => nomatch z
  | .kt _, _, _, h => by
    obtain ⟨a, h1, h2, h3⟩ := h
    rw [h2]; exact fun a z => nomatch z
  | .tup os, v, F, h => by
    obtain ⟨a, vs, h1, h2, h3⟩ := h
    exact Rps.own h3
  | .lst false os, v, F, h => by
    obtain ⟨a, vs, h1, h2, h3, h4, h5⟩ := h
    rw [h4]; exact fun a z => nomatch z
  | .lst true os, v, F, h => by
    obtain ⟨a, vs, G, h1, h2, rfl, h4⟩ := h
    intro b z
    rcases List.mem_cons.mp z with rfl | z
    · rw [h2]; trivial
    · exact Rps.own h4 b z
  | .dK false ks os, v, F, h => by
    obtain ⟨a, vs, h1, h2, h3, h4, h5, h6⟩ := h
    rw [h4]; exact fun a z => nomatch z
  | .dK true ks os, v, F, h => by
    obtain ⟨a, vs, G, h1, h2, rfl, h4, h5⟩ := h
    intro b z
    rcases List.mem_cons.mp z with rfl | z
    · rw [h2]; trivial
    · exact Rps.own h5 b z
  | .dT false ks os, v, F, h => by
    obtain ⟨a, vs, h1, h2, h3, h4, h5, h6⟩ := h
    rw [h4]; exact fun a z => nomatch z
  | .dT true ks os, v, F, h => by
    obtain ⟨a, vs, G, h1, h2, rfl, h4, h5⟩ := h
    intro b z
    rcases List.mem_cons.mp z with rfl | z
    · rw [h2]; trivial
    · exact Rps.own h5 b z
theorem Rps.own {K : PySem.W.Frag} {B : Addr → Prop} {H : Hp} : ∀ {os : List O} {vs : List V} {F : List Addr}, Rps K H B os vs F → ∀ a ∈ F, Mut (H a)
  | [], _, _, h => by rw [h.2]; exact fun a z => nomatch z
  | o :: os, vs, F, h => by
    obtain ⟨v, vr, F1, F2, h1, h2, h3, h4⟩ := h
    subst h2
    intro a z
    rcases List.mem_append.mp z with z | z
    · exact Rp.own h3 a z
    · exact Rps.own h4 a z
end
theorem mut_some {x : Option HO} (h : Mut x) : x ≠ none := fun e => by rw [e] at h; exact h
theorem Rps.len {K : PySem.W.Frag} {B : Addr → Prop} {H : Hp} : ∀ {os : List O} {vs : List V} {F : List Addr}, Rps K H B os vs F → os.length = vs.length
  | [], _, _, h => by rw [h.1]; rfl
  | o :: os, vs, F, h => by
    obtain ⟨v, vr, F1, F2, h1, h2, h3, h4⟩ := h
    rw [h1, List.length_cons, List.length_cons, Rps.len h4]

/-! ### the slots -/
/-- H0: the heap at the entry; B0: what the callers hold alone; Fs: what each slot holds alone -/
structure RS (K : PySem.W.Frag) (H0 : Hp) (B0 : Addr → Prop) (H : Hp) (σ : St) (τ : Sl) (Fs : List (List Addr)) : Prop where
  same : Same H0 H
  old : ∀ a, B0 a → Mut (H a)
  sep : ∀ a ∈ Fs.flatten, ¬ B0 a
  len : Fs.length = τ.length
  lenσ : σ.length = τ.length
  nodup : Fs.flatten.Nodup
  fresh : ∀ a ∈ Fs.flatten, H0 a = none
  slot : ∀ (i : Nat) (o : O), τ[i]? = some (some o) → ∃ v F, σ[i]? = some (some v) ∧ Fs[i]? = some F ∧ Rp K H (fun a => B0 a ∨ a ∈ Fs.flatten) o v F
  nil : ∀ (i : Nat), τ[i]? = some none → Fs[i]? = some []
/-- B and what F holds -/
def Bor (B : Addr → Prop) (F : List Addr) : Addr → Prop := fun a => B a ∨ a ∈ F
/-- what a value read from the slots ns may not touch -/
def Av (B0 : Addr → Prop) (ns : List Nat) (Fs : List (List Addr)) : Addr → Prop := fun a => B0 a ∨ ∃ (i : Nat) (F : List Addr), i ∉ ns ∧ Fs[i]? = some F ∧ a ∈ F
theorem mem_flat {Fs : List (List Addr)} {i : Nat} {F : List Addr} {a : Addr} (h : Fs[i]? = some F) (z : a ∈ F) : a ∈ Fs.flatten := List.mem_flatten.mpr ⟨F, List.mem_of_getElem? h, z⟩
theorem flat_mem {Fs : List (List Addr)} {a : Addr} (h : a ∈ Fs.flatten) : ∃ (i : Nat) (F : List Addr), Fs[i]? = some F ∧ a ∈ F := by
  obtain ⟨F, h1, h2⟩ := List.mem_flatten.mp h
  obtain ⟨i, h3⟩ := List.getElem?_of_mem h1
  exact ⟨i, F, h3, h2⟩
theorem nodup_one : ∀ {Fs : List (List Addr)}, Fs.flatten.Nodup → ∀ {i j : Nat} {F G : List Addr} {a : Addr}, Fs[i]? = some F → Fs[j]? = some G → a ∈ F → a ∈ G → i = j
  | [], _, i, _, _, _, _, h, _, _, _ => by simp at h
  | X :: Fs, nd, 0, 0, F, G, a, h, h', z, z' => rfl
  | X :: Fs, nd, 0, j + 1, F, G, a, h, h', z, z' => by
    have e : X = F := Option.some.inj h
    subst e
    rw [List.flatten_cons, List.nodup_append] at nd
    exact absurd rfl (nd.2.2 a z a (mem_flat (i := j) h' z'))
  | X :: Fs, nd, i + 1, 0, F, G, a, h, h', z, z' => by
    have e : X = G := Option.some.inj h'
    subst e
    rw [List.flatten_cons, List.nodup_append] at nd
    exact absurd rfl (nd.2.2 a z' a (mem_flat (i := i) h z))
  | X :: Fs, nd, i + 1, j + 1, F, G, a, h, h', z, z' => by
    rw [List.flatten_cons, List.nodup_append] at nd
    rw [nodup_one nd.2.1 (i := i) (j := j) h h' z z']
theorem nodup_part : ∀ {Fs : List (List Addr)} {i : Nat} {F : List Addr}, Fs.flatten.Nodup → Fs[i]? = some F → F.Nodup
  | [], i, F, _, h => by simp at h
  | X :: Fs, 0, F, nd, h => by
    have e : X = F := Option.some.inj h
    subst e
    rw [List.flatten_cons, List.nodup_append] at nd
    exact nd.1
  | X :: Fs, i + 1, F, nd, h => by
    rw [List.flatten_cons, List.nodup_append] at nd
    exact nodup_part nd.2.1 (i := i) h
section
variable {K : PySem.W.Frag} {H0 : Hp} {B0 : Addr → Prop} {H H' : Hp} {σ : St} {τ : Sl} {Fs : List (List Addr)}
theorem RS.go (r : RS K H0 B0 H σ τ Fs) (e : Same H H') : RS K H0 B0 H' σ τ Fs :=
  ⟨r.same.trans e, fun a z => (by
    have m := r.old a z
    cases q : H a with
    | none => rw [q] at m; exact m.elim
    | some u => rw [e a u q]; rw [q] at m; exact m), r.sep, r.len, r.lenσ, r.nodup, r.fresh, fun i o h => let ⟨v, F, a, b, c⟩ := r.slot i o h; ⟨v, F, a, b, c.same e⟩, r.nil⟩
theorem Av.mono {ns ms : List Nat} {a : Addr} (h : Av B0 (ns ++ ms) Fs a) : Av B0 ns Fs a ∧ Av B0 ms Fs a := by
  rcases h with h | ⟨i, F, n, e, z⟩
  · exact ⟨.inl h, .inl h⟩
  · exact ⟨.inr ⟨i, F, fun q => n (List.mem_append_left _ q), e, z⟩, .inr ⟨i, F, fun q => n (List.mem_append_right _ q), e, z⟩⟩
theorem Av.all {ns : List Nat} {a : Addr} (h : Av B0 ns Fs a) : B0 a ∨ a ∈ Fs.flatten := by
  rcases h with h | ⟨i, F, n, e, z⟩
  · exact .inl h
  · exact .inr (mem_flat e z)
theorem Av.old {B0' : Addr → Prop} {ns : List Nat} {a : Addr} (i : ∀ x, B0 x → B0' x) (h : Av B0 ns Fs a) : Av B0' ns Fs a := by
  rcases h with h | h
  · exact .inl (i a h)
  · exact .inr h
/-- what a slot holds is changeable -/
theorem RS.mutF (r : RS K H0 B0 H σ τ Fs) {a : Addr} (h : a ∈ Fs.flatten) : Mut (H a) := by
  obtain ⟨i, F, e, z⟩ := flat_mem h
  cases q : τ[i]? with
  | none =>
    have : i < Fs.length := (List.getElem?_eq_some_iff.mp e).1
    have h2 := List.getElem?_eq_none_iff.mp q
    have := r.len
    omega
  | some s =>
    cases s with
    | none =>
      have := r.nil i q
      rw [e] at this
      cases this
      cases z
    | some o =>
      obtain ⟨v, F', _, e', c⟩ := r.slot i o q
      rw [e] at e'
      cases e'
      exact c.own a z
theorem RS.mutAv (r : RS K H0 B0 H σ τ Fs) {a : Addr} (h : B0 a ∨ a ∈ Fs.flatten) : Mut (H a) := by
  rcases h with h | h
  · exact r.old a h
  · exact r.mutF h
/-- what is new is none of B's -/
theorem avB {ns : List Nat} (rs : RS K H0 B0 H σ τ Fs) {a : Addr} (h : H a = none) : ¬ Av B0 ns Fs a := fun z => mut_some (rs.mutAv z.all) h
/-- with more that is out of reach: what was made meanwhile -/
theorem RS.more {F : List Addr} (r : RS K H0 B0 H σ τ Fs) {H1 : Hp} (e : Same H H1) (m : ∀ a ∈ F, Mut (H1 a)) (n : ∀ a ∈ F, H a = none) : RS K H0 (Bor B0 F) H1 σ τ Fs := by
  have r1 := r.go e
  refine ⟨r1.same, fun a z => ?_, fun a z q => ?_, r1.len, r1.lenσ, r1.nodup, r1.fresh, fun i o h => ?_, r1.nil⟩
  · rcases z with z | z
    · exact r1.old a z
    · exact m a z
  · rcases q with q | q
    · exact r1.sep a z q
    · exact mut_some (r.mutF z) (n a q)
  · obtain ⟨v, F', a, b, c⟩ := r.slot i o h
    refine ⟨v, F', a, b, Rp.same e (c.avoid fun x ne nx z => ?_)⟩
    rcases z with (z | z) | z
    · exact nx (.inl z)
    · exact ne (n x z)
    · exact nx (.inr z)
/-- a slot, as a view -/
theorem RS.view (r : RS K H0 B0 H σ τ Fs) {i : Nat} {o : O} (h : τ[i]? = some (some o)) : ∃ v, σ[i]? = some (some v) ∧ Rp K H (Av B0 [i] Fs) (Dv.frz o) v [] := by
  obtain ⟨v, F, a, b, c⟩ := r.slot i o h
  refine ⟨v, a, (c.mono fun x z => z.all).frz fun x z q => ?_⟩
  rcases q with q | ⟨j, G, n, e, z'⟩
  · exact r.sep x (mem_flat b z) q
  · exact n (by rw [nodup_one r.nodup e b z' z]; exact List.mem_singleton.mpr rfl)
theorem Rp.nilF {B : Addr → Prop} {o : O} {v : V} (h : Rp K H B o v []) : Rp K H (Bor B []) o v [] := h.mono fun a z => z.elim id fun q => nomatch q
end

/-! ### the judgements: readings of the layer -/
def tE (K : PySem.W.Frag) (ns : List Nat) (f : SE) : TE := fun σ H Q => ∃ H0 B0 τ Fs o, RS K H0 B0 H σ τ Fs ∧ f τ = some o ∧
  ∀ v H' F, Same H H' → Rp K H' (Bor (Av B0 ns Fs) F) o v F → F.Nodup → (∀ a ∈ F, H a = none) → Q v H'
def tA (K : PySem.W.Frag) (ns : List Nat) (f : SEs) : TA := fun σ H Q => ∃ H0 B0 τ Fs os, RS K H0 B0 H σ τ Fs ∧ f τ = some os ∧
  ∀ vs H' F, Same H H' → Rps K H' (Bor (Av B0 ns Fs) F) os vs F → F.Nodup → (∀ a ∈ F, H a = none) → Q vs H'
def tT (K : PySem.W.Frag) (f : ST) : TT := fun σ H Q => ∃ H0 B0 τ Fs b, RS K H0 B0 H σ τ Fs ∧ f τ = some b ∧ ∀ H', Same H H' → Q b H'
/-- what a statement may have done -/
structure Step (Fs Fs' : List (List Addr)) (H H' : Hp) : Prop where
  ext : Ext (fun a => a ∈ Fs.flatten) H H'
  new : ∀ a ∈ Fs'.flatten, a ∈ Fs.flatten ∨ H a = none
theorem Step.refl {Fs : List (List Addr)} {H : Hp} : Step Fs Fs H H := ⟨fun _ _ _ e => e, fun _ z => .inl z⟩
theorem Step.trans {Fs Fs1 Fs2 : List (List Addr)} {H H1 H2 : Hp} (a : Step Fs Fs1 H H1) (b : Step Fs1 Fs2 H1 H2) (m : ∀ x ∈ Fs.flatten, Mut (H x)) : Step Fs Fs2 H H2 := by
  refine ⟨fun x o n e => b.ext x o (fun z => ?_) (a.ext x o n e), fun x z => ?_⟩
  · rcases a.new x z with q | q
    · exact n q
    · rw [e] at q; cases q
  · rcases b.new x z with q | q
    · exact a.new x q
    · by_cases h : x ∈ Fs.flatten
      · exact .inl h
      · refine .inr ?_
        cases e : H x with
        | none => rfl
        | some o => rw [a.ext x o h e] at q; cases q
def tS (K : PySem.W.Frag) (f : SS) : TS := fun D σ H => ∃ H0 B0 τ Fs r, RS K H0 B0 H σ τ Fs ∧ f τ = some r ∧ match r with
  | .nx τ' => ∀ σ' H' Fs', RS K H0 B0 H' σ' τ' Fs' → Step Fs Fs' H H' → D.nx σ' H'
  | .bk τ' => ∀ σ' H' Fs', RS K H0 B0 H' σ' τ' Fs' → Step Fs Fs' H H' → D.bk σ' H'
  | .ct τ' => ∀ σ' H' Fs', RS K H0 B0 H' σ' τ' Fs' → Step Fs Fs' H H' → D.ct σ' H'
  | .rt o => ∀ v H' F, Same H0 H' → Rp K H' (Bor B0 F) o v F → F.Nodup → (∀ a ∈ F, H0 a = none) → D.rt v H'
theorem _root_.L2.PE.byD {X : Cx} {e : Expr} {t t' : TE} (h : PE X e t) (i : ∀ σ H Q, t' σ H Q → t σ H Q) : PE X e t' := ⟨fun pins s σ H Q I q => h.run pins s σ H Q I (i σ H Q q)⟩
theorem _root_.L2.PT.byD {X : Cx} {e : Expr} {t t' : TT} (h : PT X e t) (i : ∀ σ H Q, t' σ H Q → t σ H Q) : PT X e t' := ⟨fun pins s σ H Q I q => h.run pins s σ H Q I (i σ H Q q)⟩
theorem _root_.L2.PW.byD {X : Cx} {e : Expr} {t t' : TT} (h : PW X e t) (i : ∀ σ H Q, t' σ H Q → t σ H Q) : PW X e t' := ⟨fun w pins s σ H Q I q => h.run w pins s σ H Q I (i σ H Q q)⟩
theorem _root_.L2.PA.byD {X : Cx} {e : List Expr} {t t' : TA} (h : PA X e t) (i : ∀ σ H Q, t' σ H Q → t σ H Q) : PA X e t' := ⟨fun pos pins s σ H Q I q => h.run pos pins s σ H Q I (i σ H Q q)⟩
theorem _root_.L2.PS.byD {X : Cx} {e : Stmt} {t t' : TS} (h : PS X e t) (i : ∀ D σ H, t' D σ H → t D σ H) : PS X e t' := ⟨fun pins s σ H D I q => h.run pins s σ H D I (i D σ H q)⟩
theorem _root_.L2.PSs.byD {X : Cx} {e : List Stmt} {t t' : TS} (h : PSs X e t) (i : ∀ D σ H, t' D σ H → t D σ H) : PSs X e t' := ⟨fun pins s σ H D I q => h.run pins s σ H D I (i D σ H q)⟩
abbrev DE (X : Cx) (ns : List Nat) (e : Expr) (f : SE) : Prop := PE X e (tE X.K ns f)
abbrev DA (X : Cx) (ns : List Nat) (e : List Expr) (f : SEs) : Prop := PA X e (tA X.K ns f)
abbrev DT (X : Cx) (e : Expr) (f : ST) : Prop := PT X e (tT X.K f)
abbrev DW (X : Cx) (e : Expr) (f : ST) : Prop := PW X e (tT X.K f)
abbrev DS (X : Cx) (e : Stmt) (f : SS) : Prop := PS X e (tS X.K f)
abbrev DSs (X : Cx) (e : List Stmt) (f : SS) : Prop := PSs X e (tS X.K f)

theorem bind_some {α β : Type} {a : Option α} {f : α → Option β} {b : β} (h : a.bind f = some b) : ∃ x, a = some x ∧ f x = some b := Option.bind_eq_some_iff.mp h

section
variable {X : Cx} {a b c e : Expr} {es : List Expr} {na nb ns ms : List Nat} {fa fb f g : SE} {fs : SEs} {pos : Pos}
/-! ### names and constants -/
theorem de_var (i : Nat) {x : Str} (hN : X.N[i]? = some x := by rfl) (hv : Vis X.env.scope x := by first | exact Or.inl rfl | exact Or.inr (Or.inl rfl) | exact Or.inr (Or.inr rfl)) (hd : (x == ("__debug__" : Str)) = false := by decide)
    (hcd : (x == ("__classdict__" : Str)) = false := by decide) : DE X [i] (.Name x pos) (xV i) := by
  refine (pe_var hN hv hd hcd).byD fun σ H Q h => ?_
  obtain ⟨H0, B0, τ, Fs, o, rs, ho, k⟩ := h
  unfold xV get at ho
  cases q : τ[i]? with
  | none => rw [q] at ho; exact nomatch ho
  | some s =>
    cases s with
    | none => rw [q] at ho; exact nomatch ho
    | some o' =>
      rw [q] at ho
      have e : Dv.frz o' = o := Option.some.inj ho
      subst e
      obtain ⟨v, h1, h2⟩ := rs.view q
      exact ⟨v, h1, k v H [] (Same.refl H) h2.nilF List.nodup_nil fun a z => nomatch z⟩
theorem de_const {v : V} {o : O} (h : PE X e (tC v)) (r : ∀ H B, Rp X.K H B o v []) : DE X [] e (xC o) := by
  refine h.byD fun σ H Q h => ?_
  obtain ⟨H0, B0, τ, Fs, o', rs, ho, k⟩ := h
  have e : o = o' := Option.some.inj ho
  subst e
  exact k v H [] (Same.refl H) (r _ _) List.nodup_nil fun a z => nomatch z
theorem de_int {i j} : DE X [] (.Constant (.int i) j pos) (xC (.int i)) := de_const pe_int fun _ _ => ⟨rfl, rfl⟩
theorem de_bl {i j} : DE X [] (.Constant (.bool i) j pos) (xC (.bl i)) := de_const pe_bl fun _ _ => ⟨rfl, rfl⟩
theorem de_non {j} : DE X [] (.Constant .none j pos) (xC .non) := de_const pe_non fun _ _ => ⟨rfl, rfl⟩
theorem de_str {x j} : DE X [] (.Constant (.str x) j pos) (xC (.str x)) := de_const pe_str fun _ _ => ⟨rfl, rfl⟩
theorem de_gint {x : Str} {i : Int} {u : Value} (hg : Gl X x) (hm : X.mg x = some u) (r : RelV (.int i) u) (hd : (x == ("__debug__" : Str)) = false := by decide) : DE X [] (.Name x pos) (xC (.int i)) :=
  de_const (pe_glob hg hm r hd) fun _ _ => ⟨rfl, rfl⟩
/-! ### lists of expressions -/
theorem da_nil : DA X [] [] xsN := by
  refine pa_nil.byD fun σ H Q h => ?_
  obtain ⟨H0, B0, τ, Fs, o', rs, ho, k⟩ := h
  cases ho
  exact k [] H [] (Same.refl H) ⟨rfl, rfl⟩ List.nodup_nil fun a z => nomatch z
theorem two_fresh {K : PySem.W.Frag} {B : Addr → Prop} {H H1 : Hp} {F1 F2 : List Addr} (s1 : Same H H1) (m : ∀ a ∈ F1, Mut (H1 a)) (n1 : F1.Nodup) (n2 : F2.Nodup) (f1 : ∀ a ∈ F1, H a = none) (f2 : ∀ a ∈ F2, H1 a = none) : (F1 ++ F2).Nodup ∧ ∀ a ∈ F1 ++ F2, H a = none := by
  refine ⟨List.nodup_append.mpr ⟨n1, n2, fun a z b z' e => ?_⟩, fun a z => ?_⟩
  · subst e
    exact mut_some (m a z) (f2 a z')
  · rcases List.mem_append.mp z with z | z
    · exact f1 a z
    · exact s1.free (f2 a z)
theorem two_left {K : PySem.W.Frag} {H0 H H1 H2 : Hp} {B0 : Addr → Prop} {σ : St} {τ : Sl} {Fs : List (List Addr)} {na nb : List Nat} {F1 F2 : List Addr} {o : O} {v : V} {G : List Addr} (rs : RS K H0 B0 H σ τ Fs) (s2 : Same H1 H2) (r1 : Rp K H1 (Bor (Av B0 na Fs) F1) o v G) (f2 : ∀ a ∈ F2, H1 a = none) :
    Rp K H2 (Bor (Av B0 (na ++ nb) Fs) (F1 ++ F2)) o v G := by
  refine Rp.same s2 (r1.avoid fun x ne nx z => ?_)
  rcases z with z | z
  · exact nx (.inl z.mono.1)
  · rcases List.mem_append.mp z with z | z
    · exact nx (.inr z)
    · exact ne (f2 x z)
theorem two_right {B0 : Addr → Prop} {Fs : List (List Addr)} {na nb : List Nat} {F1 F2 : List Addr} (a : Addr) (z : Bor (Av B0 (na ++ nb) Fs) (F1 ++ F2) a) : Bor (Av (Bor B0 F1) nb Fs) F2 a := by
  rcases z with z | z
  · exact .inl (z.mono.2.old fun x q => .inl q)
  · rcases List.mem_append.mp z with z | z
    · exact .inl (.inl (.inr z))
    · exact .inr z
theorem da_cons (ha : DE X na a fa) (hr : DA X ns es fs) (hs : starEach (a :: es) X.env = (false, eval a X.env) :: starEach es X.env := by rfl) : DA X (na ++ ns) (a :: es) (xsC fa fs) := by
  refine (pa_cons ha hr hs).byD fun σ H Q h => ?_
  obtain ⟨H0, B0, τ, Fs, os, rs, ho, k⟩ := h
  obtain ⟨x, hx, ho⟩ := bind_some ho
  obtain ⟨xs, hxs, ho⟩ := bind_some ho
  cases ho
  refine ⟨H0, B0, τ, Fs, x, rs, hx, fun v1 H1 F1 s1 r1 n1 f1 => ⟨H0, Bor B0 F1, τ, Fs, xs, rs.more s1 r1.own f1, hxs, fun vs H2 F2 s2 r2 n2 f2 => ?_⟩⟩
  obtain ⟨n, f⟩ := two_fresh (K := X.K) (B := B0) s1 r1.own n1 n2 f1 f2
  exact k (v1 :: vs) H2 (F1 ++ F2) (s1.trans s2) ⟨v1, vs, F1, F2, rfl, rfl, two_left rs s2 r1 f2, r2.mono two_right⟩ n f
/-- what a new object at p is -/
theorem same_upd {H : Hp} {p : Addr} {o : HO} (h : H p = none) : Same H (upd H p o) := fun b x e => by
  rw [upd_ne (ne_of_none e h)]
  exact e
theorem de_tup {x1} (h : DA X ns es fs) : DE X ns (.Tuple es x1 pos) (xTup fs) := by
  refine (pe_tup h).byD fun σ H Q h => ?_
  obtain ⟨H0, B0, τ, Fs, o, rs, ho, k⟩ := h
  obtain ⟨xs, hxs, ho⟩ := bind_some ho
  refine ⟨H0, B0, τ, Fs, xs, rs, hxs, fun vs H1 F s1 r n f => ?_⟩
  split at ho
  · rename_i hl
    cases ho
    refine ⟨by rw [← r.len]; exact hl, fun p hp => k (.ref p) _ F (s1.trans (same_upd hp)) ⟨p, vs, rfl, upd_same, r.same (same_upd hp)⟩ n f⟩
  · cases ho
theorem new_av {B : Addr → Prop} {H : Hp} {F : List Addr} {p : Addr} (hp : H p = none) (a : Addr) (ne : H a ≠ none) (n : ¬ Bor B F a) : ¬ Bor B (p :: F) a := fun z => by
  rcases z with z | z
  · exact n (.inl z)
  · rcases List.mem_cons.mp z with rfl | z
    · exact ne hp
    · exact n (.inr z)
theorem de_lst (h : DA X ns es fs) : DE X ns (.List es pos) (xLst fs) := by
  refine (pe_lst h).byD fun σ H Q h => ?_
  obtain ⟨H0, B0, τ, Fs, o, rs, ho, k⟩ := h
  obtain ⟨xs, hxs, ho⟩ := bind_some ho
  refine ⟨H0, B0, τ, Fs, xs, rs, hxs, fun vs H1 F s1 r n f => ?_⟩
  split at ho
  · rename_i hl
    cases ho
    refine ⟨by rw [← r.len]; exact hl, fun p hp => k (.ref p) _ (p :: F) (s1.trans (same_upd hp)) ⟨p, vs, F, rfl, upd_same, rfl, Rps.same (same_upd hp) (r.avoid (new_av hp))⟩ (List.nodup_cons.mpr ⟨fun z => mut_some (r.own p z) hp, n⟩) fun a z => ?_⟩
    rcases List.mem_cons.mp z with rfl | z
    · exact s1.free hp
    · exact f a z
  · cases ho
end
end Dv

end
section
set_option Elab.async false
set_option linter.all false
set_option maxRecDepth 100000
/-! Dk: operators, tests, places, built-ins, statements. -/
namespace Dv
open PySem PySem.Spec L2
open PyProof.Rows hiding St
section
variable {K : PySem.W.Frag} {B : Addr → Prop} {H H' : Hp}
theorem Rps.append : ∀ {os ps : List O} {vs ws : List V} {F G : List Addr}, Rps K H B os vs F → Rps K H B ps ws G → Rps K H B (os ++ ps) (vs ++ ws) (F ++ G)
  | [], _, _, _, _, _, h, h' => by
    obtain ⟨h1, h2⟩ := h
    subst h1 h2
    exact h'
  | o :: os, _, _, _, _, _, h, h' => by
    obtain ⟨v, vr, F1, F2, h1, h2, h3, h4⟩ := h
    subst h1 h2
    exact ⟨v, vr ++ _, F1, F2 ++ _, rfl, by rw [List.append_assoc], h3, Rps.append h4 h'⟩
/-- one of them -/
theorem Rps.at : ∀ {os : List O} {vs : List V} {F : List Addr} {j : Nat} {o : O}, Rps K H B os vs F → os[j]? = some o → ∃ v F1, vs[j]? = some v ∧ Rp K H B o v F1 ∧ F1.Sublist F
  | [], _, _, j, o, h, e => by simp at e
  | x :: os, _, _, 0, o, h, e => by
    obtain ⟨v, vr, F1, F2, h1, h2, h3, h4⟩ := h
    subst h1 h2
    have e : x = o := Option.some.inj e
    subst e
    exact ⟨v, F1, rfl, h3, List.sublist_append_left _ _⟩
  | x :: os, _, _, j + 1, o, h, e => by
    obtain ⟨v, vr, F1, F2, h1, h2, h3, h4⟩ := h
    subst h1 h2
    obtain ⟨w, G, a, b, c⟩ := Rps.at h4 (j := j) e
    exact ⟨w, G, a, b, c.trans (List.sublist_append_right _ _)⟩
theorem Rps.drop : ∀ {os : List O} {vs : List V} {F : List Addr} (j : Nat), Rps K H B os vs F → ∃ G, Rps K H B (os.drop j) (vs.drop j) G ∧ G.Sublist F
  | [], vs, F, j, h => by
    obtain ⟨h1, h2⟩ := h
    subst h1 h2
    exact ⟨[], by rw [List.drop_nil, List.drop_nil]; exact ⟨rfl, rfl⟩, List.Sublist.refl _⟩
  | x :: os, vs, F, 0, h => ⟨F, h, List.Sublist.refl _⟩
  | x :: os, vs, F, j + 1, h => by
    obtain ⟨v, vr, F1, F2, h1, h2, h3, h4⟩ := h
    subst h1 h2
    obtain ⟨G, a, b⟩ := Rps.drop j h4
    exact ⟨G, a, b.trans (List.sublist_append_right _ _)⟩
theorem Rps.take : ∀ {os : List O} {vs : List V} {F : List Addr} (j : Nat), Rps K H B os vs F → ∃ G, Rps K H B (os.take j) (vs.take j) G ∧ G.Sublist F
  | os, vs, F, 0, h => ⟨[], ⟨rfl, rfl⟩, List.nil_sublist _⟩
  | [], vs, F, j + 1, h => by
    obtain ⟨h1, h2⟩ := h
    subst h1 h2
    exact ⟨[], ⟨rfl, rfl⟩, List.Sublist.refl _⟩
  | x :: os, vs, F, j + 1, h => by
    obtain ⟨v, vr, F1, F2, h1, h2, h3, h4⟩ := h
    subst h1 h2
    obtain ⟨G, a, b⟩ := Rps.take j h4
    exact ⟨F1 ++ G, ⟨v, vr.take j, F1, G, rfl, rfl, h3, a⟩, List.Sublist.append (List.Sublist.refl _) b⟩
theorem Rps.ints : ∀ {ns : List Int} {vs : List V}, vs = ns.map V.int → Rps K H B (ns.map O.int) vs []
  | [], _, e => by subst e; exact ⟨rfl, rfl⟩
  | n :: ns, _, e => by subst e; exact ⟨.int n, ns.map V.int, [], [], rfl, rfl, ⟨rfl, rfl⟩, Rps.ints rfl⟩
theorem Rps.nilF {os : List O} {vs : List V} (h : Rps K H B os vs []) : Rps K H (Bor B []) os vs [] := h.mono fun a z => z.elim id fun q => nomatch q
theorem Rps.bls : ∀ {os : List O} {bs : List Bool} {vs : List V} {F : List Addr}, allB os = some bs → Rps K H B os vs F → vs = bs.map V.bl
  | [], bs, vs, F, e, h => by
    cases e
    exact h.1
  | o :: os, bs, vs, F, e, h => by
    obtain ⟨v, vr, F1, F2, h1, h2, h3, h4⟩ := h
    obtain ⟨b, hb, e⟩ := bind_some (show ((asB o).bind fun b => (allB os).bind fun bs => some (b :: bs)) = some bs from e)
    obtain ⟨cs, hc, e⟩ := bind_some e
    cases e
    subst h1
    have h5 := Rps.bls hc h4
    subst h5
    cases o with
    | bl b' =>
      cases hb
      obtain ⟨h6, _⟩ := h3
      subst h6
      rfl
    | _ => exact nomatch hb
end

/-- f is what r gives, for two values -/
def Op2 (K : PySem.W.Frag) (f : O → O → Option O) (r : R2) : Prop := ∀ (B : Addr → Prop) (H : Hp) (x y o : O) (v1 v2 : V) (F1 F2 : List Addr) (Q : VK), f x y = some o → Rp K H (Bor B (F1 ++ F2)) x v1 F1 → Rp K H (Bor B (F1 ++ F2)) y v2 F2 → (F1 ++ F2).Nodup → (∀ a ∈ F1 ++ F2, ¬ B a) →
  (∀ v H' F, Same H H' → Rp K H' (Bor B F) o v F → F.Nodup → (∀ a ∈ F, a ∈ F1 ++ F2 ∨ H a = none) → Q v H') → r v1 v2 H Q
/-- .. for a list of values -/
def OpN (K : PySem.W.Frag) (f : List O → Option O) (r : List V → Hp → VK → Prop) : Prop := ∀ (B : Addr → Prop) (H : Hp) (xs : List O) (o : O) (vs : List V) (F : List Addr) (Q : VK), f xs = some o → Rps K H (Bor B F) xs vs F → F.Nodup → (∀ a ∈ F, ¬ B a) →
  (∀ v H' F', Same H H' → Rp K H' (Bor B F') o v F' → F'.Nodup → (∀ a ∈ F', a ∈ F ∨ H a = none) → Q v H') → r vs H Q
section
variable {X : Cx} {a b c e : Expr} {es : List Expr} {na nb nc ns ms : List Nat} {fa fb fc f g : SE} {fs : SEs} {pos : Pos}
theorem r2_imp {r : R2} {h : O → O → Option O} (ho : Op2 X.K h r) (σ : St) (H : Hp) (Q : VK) (q : tE X.K (na ++ nb) (x2 h fa fb) σ H Q) : tOp r (tE X.K na fa) (tE X.K nb fb) σ H Q := by
  obtain ⟨H0, B0, τ, Fs, o, rs, ho', k⟩ := q
  obtain ⟨x, hx, ho'⟩ := bind_some ho'
  obtain ⟨y, hy, ho'⟩ := bind_some ho'
  refine ⟨H0, B0, τ, Fs, x, rs, hx, fun v1 H1 F1 s1 r1 n1 f1 => ⟨H0, Bor B0 F1, τ, Fs, y, rs.more s1 r1.own f1, hy, fun v2 H2 F2 s2 r2 n2 f2 => ?_⟩⟩
  obtain ⟨n, ff⟩ := two_fresh (K := X.K) (B := B0) s1 r1.own n1 n2 f1 f2
  refine ho (Av B0 (na ++ nb) Fs) H2 x y o v1 v2 F1 F2 Q ho' (two_left rs s2 r1 f2) (r2.mono two_right) n (fun a z => avB rs (ff a z)) fun v H' F s r n' f' => k v H' F ((s1.trans s2).trans s) r n' fun a z => ?_
  rcases f' a z with z | z
  · exact ff a z
  · exact s1.free (s2.free z)
theorem de_2 {op : Operator} {r : R2} {h : O → O → Option O} (hr : OpR X (binaryOp op) r) (ho : Op2 X.K h r) (ha : DE X na a fa) (hb : DE X nb b fb) : DE X (na ++ nb) (.BinOp a op b pos) (x2 h fa fb) :=
  (pe_op hr ha hb).byD fun σ H Q q => r2_imp ho σ H Q q
theorem de_cmp {op : CmpOp} {r : R2} {h : O → O → Option O} (hr : OpR X (compareOp op) r) (ho : Op2 X.K h r) (ha : DE X na a fa) (hb : DE X nb b fb) (hm : behindInMarks op b = false) : DE X (na ++ nb) (.Compare a [op] [b] pos) (x2 h fa fb) :=
  (pe_cmpR hr ha hb hm).byD fun σ H Q q => r2_imp ho σ H Q q
/-- an answer that is True or False -/
theorem tE_bl {ns : List Nat} {f : SE} (σ : St) (H : Hp) (Q : Bool → Hp → Prop) (q : tT X.K (tOf f) σ H Q) : tE X.K ns f σ H (fun x H' => ∃ k, x = .bl k ∧ Q k H') := by
  obtain ⟨H0, B0, τ, Fs, b, rs, hb, k⟩ := q
  obtain ⟨o, ho, hb⟩ := bind_some hb
  refine ⟨H0, B0, τ, Fs, o, rs, ho, fun v H' F s r n f => ?_⟩
  cases o with
  | bl b' =>
    cases hb
    obtain ⟨h1, _⟩ := r
    exact ⟨b, h1, k H' s⟩
  | _ => exact nomatch hb
theorem dt_cmp {op : CmpOp} {r : R2} {h : O → O → Option O} (hr : OpR X (compareOp op) r) (ho : Op2 X.K h r) (ha : DE X na a fa) (hb : DE X nb b fb) (hm : behindInMarks op b = false) : DT X (.Compare a [op] [b] pos) (tOf (x2 h fa fb)) :=
  (pt_cmpR hr ha hb hm).byD fun σ H Q q => r2_imp ho σ H _ (tE_bl (ns := na ++ nb) σ H Q q)
/-- an expression as a test -/
theorem dt_val (h : DE X ns e f) (he : ∀ whole, isTrue e X.env whole = (do let v ← whole; standAt e.pos; holding [v] (truthy v)) := by intro _; rfl) : DT X e (tOf f) :=
  (pt_val h he).byD fun σ H Q q => tE_bl σ H Q q
theorem dt_not {ta : ST} (h : DT X a ta) : DT X (.UnaryOp .Not a pos) (Dv.tNot ta) := by
  refine (pt_not h).byD fun σ H Q q => ?_
  obtain ⟨H0, B0, τ, Fs, b, rs, hb, k⟩ := q
  obtain ⟨x, hx, hb⟩ := bind_some hb
  cases hb
  exact ⟨H0, B0, τ, Fs, x, rs, hx, k⟩
theorem dw_pt {t : ST} (h : DW X e t) : DT X e t := PW.pt h
theorem dw_and1 {t : ST} (h : DT X a t) : DW X (.BoolOp .And [a] pos) t := pw_and1 h
theorem dw_or1 {t : ST} (h : DT X a t) : DW X (.BoolOp .Or [a] pos) t := pw_or1 h
theorem dw_and {t u : ST} {rest : List Expr} (ha : DT X a t) (hb : DW X (.BoolOp .And (b :: rest) pos) u) : DW X (.BoolOp .And (a :: b :: rest) pos) (Dv.tAnd t u) := by
  refine (pw_and ha hb).byD fun σ H Q q => ?_
  obtain ⟨H0, B0, τ, Fs, r, rs, hr, k⟩ := q
  obtain ⟨x, hx, hr⟩ := bind_some hr
  refine ⟨H0, B0, τ, Fs, x, rs, hx, fun H1 s1 => ?_⟩
  cases x with
  | true => exact iteT ⟨H0, B0, τ, Fs, r, rs.go s1, hr, fun H2 s2 => k H2 (s1.trans s2)⟩
  | false =>
    cases hr
    exact iteF (k H1 s1)
theorem dw_or {t u : ST} {rest : List Expr} (ha : DT X a t) (hb : DW X (.BoolOp .Or (b :: rest) pos) u) : DW X (.BoolOp .Or (a :: b :: rest) pos) (Dv.tOr t u) := by
  refine (pw_or ha hb).byD fun σ H Q q => ?_
  obtain ⟨H0, B0, τ, Fs, r, rs, hr, k⟩ := q
  obtain ⟨x, hx, hr⟩ := bind_some hr
  refine ⟨H0, B0, τ, Fs, x, rs, hx, fun H1 s1 => ?_⟩
  cases x with
  | true =>
    cases hr
    exact iteT (k H1 s1)
  | false => exact iteF ⟨H0, B0, τ, Fs, r, rs.go s1, hr, fun H2 s2 => k H2 (s1.trans s2)⟩
/-- and, or, not as values: of True and False -/
theorem de_one {op} (h : DE X ns a f) : DE X ns (.BoolOp op [a] pos) f := pe_one h
theorem fin_blD {B0 : Addr → Prop} {Fs : List (List Addr)} {ns : List Nat} {H : Hp} {k : Bool} {Q : VK} {H' : Hp} (s : Same H H') (h : ∀ v H' F, Same H H' → Rp X.K H' (Bor (Av B0 ns Fs) F) (.bl k) v F → F.Nodup → (∀ a ∈ F, H a = none) → Q v H') : Q (.bl k) H' :=
  h (.bl k) H' [] s ⟨rfl, rfl⟩ List.nodup_nil fun a z => nomatch z
theorem de_and {rest : List Expr} (ha : DE X na a fa) (hb : DE X nb (.BoolOp .And (b :: rest) pos) fb) : DE X (na ++ nb) (.BoolOp .And (a :: b :: rest) pos) (xAnd fa fb) := by
  refine (pe_and ha hb).byD fun σ H Q q => ?_
  obtain ⟨H0, B0, τ, Fs, o, rs, ho, k⟩ := q
  obtain ⟨x, hx, ho⟩ := bind_some ho
  obtain ⟨y, hy, hx⟩ := bind_some hx
  refine ⟨H0, B0, τ, Fs, y, rs, hy, fun v1 H1 F1 s1 r1 n1 f1 => ?_⟩
  cases y with
  | bl z =>
    cases hx
    obtain ⟨e1, _⟩ := r1
    refine ⟨x, e1, ?_⟩
    cases x with
    | true => exact iteT ⟨H0, B0, τ, Fs, o, rs.go s1, ho, fun v H2 F s2 r n f => k v H2 F (s1.trans s2) (r.mono fun a z => z.imp (fun q => q.mono.2) id) n fun a z => s1.free (f a z)⟩
    | false =>
      cases ho
      exact iteF (fin_blD s1 k)
  | _ => exact nomatch hx
theorem de_or {rest : List Expr} (ha : DE X na a fa) (hb : DE X nb (.BoolOp .Or (b :: rest) pos) fb) : DE X (na ++ nb) (.BoolOp .Or (a :: b :: rest) pos) (xOr fa fb) := by
  refine (pe_or ha hb).byD fun σ H Q q => ?_
  obtain ⟨H0, B0, τ, Fs, o, rs, ho, k⟩ := q
  obtain ⟨x, hx, ho⟩ := bind_some ho
  obtain ⟨y, hy, hx⟩ := bind_some hx
  refine ⟨H0, B0, τ, Fs, y, rs, hy, fun v1 H1 F1 s1 r1 n1 f1 => ?_⟩
  cases y with
  | bl z =>
    cases hx
    obtain ⟨e1, _⟩ := r1
    refine ⟨x, e1, ?_⟩
    cases x with
    | false => exact iteF ⟨H0, B0, τ, Fs, o, rs.go s1, ho, fun v H2 F s2 r n f => k v H2 F (s1.trans s2) (r.mono fun a z => z.imp (fun q => q.mono.2) id) n fun a z => s1.free (f a z)⟩
    | true =>
      cases ho
      exact iteT (fin_blD s1 k)
  | _ => exact nomatch hx
theorem de_not (ha : DE X na a fa) : DE X na (.UnaryOp .Not a pos) (xNot fa) := by
  refine (pe_not ha).byD fun σ H Q q => ?_
  obtain ⟨H0, B0, τ, Fs, o, rs, ho, k⟩ := q
  obtain ⟨x, hx, ho⟩ := bind_some ho
  obtain ⟨y, hy, hx⟩ := bind_some hx
  refine ⟨H0, B0, τ, Fs, y, rs, hy, fun v1 H1 F1 s1 r1 n1 f1 => ?_⟩
  cases y with
  | bl z =>
    cases hx
    cases ho
    obtain ⟨e1, _⟩ := r1
    exact ⟨x, e1, fin_blD s1 k⟩
  | _ => exact nomatch hx
/-- a if t else b -/
theorem de_if {t : ST} (ht : DT X c t) (ha : DE X na a fa) (hb : DE X nb b fb) : DE X (na ++ nb) (.IfExp c a b pos) (xIf t fa fb) := by
  refine (pe_ifExp ht ha hb).byD fun σ H Q q => ?_
  obtain ⟨H0, B0, τ, Fs, o, rs, ho, k⟩ := q
  obtain ⟨x, hx, ho⟩ := bind_some ho
  refine ⟨H0, B0, τ, Fs, x, rs, hx, fun H1 s1 => ?_⟩
  cases x with
  | true => exact iteT ⟨H0, B0, τ, Fs, o, rs.go s1, ho, fun v H2 F s2 r n f => k v H2 F (s1.trans s2) (r.mono fun a z => z.imp (fun q => q.mono.1) id) n fun a z => s1.free (f a z)⟩
  | false => exact iteF ⟨H0, B0, τ, Fs, o, rs.go s1, ho, fun v H2 F s2 r n f => k v H2 F (s1.trans s2) (r.mono fun a z => z.imp (fun q => q.mono.2) id) n fun a z => s1.free (f a z)⟩
/-- a one-place operation -/
theorem de_neg (ha : DE X na a fa) : DE X na (.UnaryOp .USub a pos) (x1 negD fa) := by
  refine (pe_un un_neg ha).byD fun σ H Q q => ?_
  obtain ⟨H0, B0, τ, Fs, o, rs, ho, k⟩ := q
  obtain ⟨x, hx, ho⟩ := bind_some ho
  refine ⟨H0, B0, τ, Fs, x, rs, hx, fun v1 H1 F1 s1 r1 n1 f1 => ?_⟩
  cases x with
  | int i =>
    cases ho
    obtain ⟨e1, _⟩ := r1
    exact ⟨i, e1, k _ H1 [] s1 ⟨rfl, rfl⟩ List.nodup_nil fun a z => nomatch z⟩
  | _ => exact nomatch ho
end

/-! ### the operators -/
section
variable {K : PySem.W.Frag} {X : Cx}
theorem done0 {B : Addr → Prop} {H : Hp} {o : O} {v : V} {G : List Addr} {Q : VK} (k : ∀ v H' F, Same H H' → Rp K H' (Bor B F) o v F → F.Nodup → (∀ a ∈ F, a ∈ G ∨ H a = none) → Q v H') (r : Rp K H B o v []) : Q v H := k v H [] (Same.refl H) r.nilF List.nodup_nil fun a z => nomatch z
theorem op2_ii {f : O → O → Option O} {C : Int → Int → Prop} {g : Int → Int → V} (h : ∀ x y o, f x y = some o → ∃ i j, x = .int i ∧ y = .int j ∧ C i j ∧ ∀ H B, Rp K H B o (g i j) []) : Op2 K f (rI C g) := by
  intro B H x y o v1 v2 F1 F2 Q e r1 r2 _ _ k
  obtain ⟨i, j, rfl, rfl, c, r⟩ := h x y o e
  obtain ⟨e1, _⟩ := r1
  obtain ⟨e2, _⟩ := r2
  exact ⟨i, j, e1, e2, c, done0 k (r _ _)⟩
theorem op2_i0 {f : O → O → Option O} {g : Int → Int → V} (h : ∀ x y o, f x y = some o → ∃ i j, x = .int i ∧ y = .int j ∧ ∀ H B, Rp K H B o (g i j) []) : Op2 K f (rI0 g) := by
  intro B H x y o v1 v2 F1 F2 Q e r1 r2 _ _ k
  obtain ⟨i, j, rfl, rfl, r⟩ := h x y o e
  obtain ⟨e1, _⟩ := r1
  obtain ⟨e2, _⟩ := r2
  exact ⟨i, j, e1, e2, done0 k (r _ _)⟩
theorem o_sub : Op2 K subD (rI0 fun i j => .int (i - j)) := op2_i0 fun x y o e => by
  cases x <;> cases y <;> first | (cases e; done) | (cases e; exact ⟨_, _, rfl, rfl, fun _ _ => ⟨rfl, rfl⟩⟩)
theorem o_mul : Op2 K mulD (rI CMulW fun i j => .int (i * j)) := op2_ii fun x y o e => by
  cases x <;> cases y <;> first | (cases e; done) | skip
  rename_i i j
  simp only [mulD] at e
  by_cases h : mulOk i j = true
  · rw [if_pos h] at e
    cases e
    exact ⟨_, _, rfl, rfl, (by unfold mulOk at h; rw [decide_eq_true_eq] at h; exact h), fun _ _ => ⟨rfl, rfl⟩⟩
  · rw [if_neg h] at e; cases e
theorem o_fdiv : Op2 K fdivD (rI CDivW fun i j => .int (i / j)) := op2_ii fun x y o e => by
  cases x <;> cases y <;> first | (cases e; done) | skip
  rename_i i j
  simp only [fdivD] at e
  by_cases h : divOk j = true
  · rw [if_pos h] at e
    cases e
    unfold divOk at h
    rw [Bool.and_eq_true, decide_eq_true_eq, decide_eq_true_eq] at h
    exact ⟨_, _, rfl, rfl, h, fun _ _ => ⟨rfl, rfl⟩⟩
  · rw [if_neg h] at e; cases e
theorem o_mod : Op2 K modD (rI (fun _ j => 0 < j) fun i j => .int (i % j)) := op2_ii fun x y o e => by
  cases x <;> cases y <;> first | (cases e; done) | skip
  rename_i i j
  simp only [modD] at e
  by_cases h : 0 < j
  · rw [if_pos h] at e
    cases e
    exact ⟨_, _, rfl, rfl, h, fun _ _ => ⟨rfl, rfl⟩⟩
  · rw [if_neg h] at e; cases e
theorem o_pow : Op2 K powD (rI CPow fun i j => .int (i ^ j.toNat)) := op2_ii fun x y o e => by
  cases x <;> cases y <;> first | (cases e; done) | skip
  rename_i i j
  simp only [powD] at e
  by_cases h : powOk i j = true
  · rw [if_pos h] at e
    cases e
    unfold powOk at h
    rw [Bool.and_eq_true, Bool.and_eq_true, decide_eq_true_eq, decide_eq_true_eq, decide_eq_true_eq] at h
    exact ⟨_, _, rfl, rfl, ⟨h.1.1, by omega, h.2⟩, fun _ _ => ⟨rfl, rfl⟩⟩
  · rw [if_neg h] at e; cases e
theorem o_cmpI {p : Int → Int → Bool} : Op2 K (cmpI p) (rI0 fun i j => .bl (p i j)) := op2_i0 fun x y o e => by
  cases x <;> cases y <;> first | (cases e; done) | (cases e; exact ⟨_, _, rfl, rfl, fun _ _ => ⟨rfl, rfl⟩⟩)
/-- a list, of either kind, stands -/
theorem Rp.lst_at {B : Addr → Prop} {H : Hp} {own : Bool} {xs : List O} {v : V} {F : List Addr} (h : Rp K H B (.lst own xs) v F) : ∃ a vs G, v = .ref a ∧ H a = some (.lst vs) ∧ Rps K H B xs vs G ∧ G.Sublist F ∧ (own = true → a ∈ F ∧ F = a :: G) ∧ (own = false → ¬ B a) := by
  cases own with
  | false =>
    obtain ⟨a, vs, h1, h2, h3, rfl, h5⟩ := h
    exact ⟨a, vs, [], h1, h2, h5, List.Sublist.refl _, (fun z => nomatch z), fun _ => h3⟩
  | true =>
    obtain ⟨a, vs, G, h1, h2, rfl, h4⟩ := h
    exact ⟨a, vs, G, h1, h2, h4, List.sublist_cons_self _ _, fun _ => ⟨List.mem_cons_self, rfl⟩, (fun z => nomatch z)⟩
/-- a new own list -/
theorem new_lst {B : Addr → Prop} {H : Hp} {os : List O} {vs : List V} {G : List Addr} {p : Addr} (hp : H p = none) (r : Rps K H (Bor B G) os vs G) (n : G.Nodup) : Rp K (upd H p (.lst vs)) (Bor B (p :: G)) (.lst true os) (.ref p) (p :: G) ∧ (p :: G).Nodup :=
  ⟨⟨p, vs, G, rfl, upd_same, rfl, Rps.same (same_upd hp) (r.avoid (new_av hp))⟩, List.nodup_cons.mpr ⟨fun z => mut_some (r.own p z) hp, n⟩⟩
def rAddAny (K : PySem.W.Frag) : R2 := fun x y H Q => (rI0 (fun i j => .int (i + j)) x y H Q ∨ (∃ i k, x = .int i ∧ y = .bl k ∧ Q (.int (i + b2i k)) H)) ∨ rCatA K x y H Q ∨ rCat x y H Q ∨ (∃ i j, x = .str i ∧ y = .str j ∧ i.length + j.length ≤ sizeLine ∧ Q (.str (i ++ j)) H)
theorem r_add : OpR X (binaryOp .Add) (rAddAny X.K) := (op_add.or op_add_ib).or (op_catA.or (op_cat.or op_add_str))
theorem o_add : Op2 K addD (rAddAny K) := by
  intro B H x y o v1 v2 F1 F2 Q e r1 r2 nd av k
  cases x <;> cases y <;> first | (cases e; done) | skip
  · cases e
    obtain ⟨e1, _⟩ := r1
    obtain ⟨e2, _⟩ := r2
    exact .inl (.inr ⟨_, _, e1, e2, done0 k ⟨rfl, rfl⟩⟩)
  · cases e
    obtain ⟨e1, _⟩ := r1
    obtain ⟨e2, _⟩ := r2
    exact .inl (.inl ⟨_, _, e1, e2, done0 k ⟨rfl, rfl⟩⟩)
  · rename_i x y
    obtain ⟨e1, _⟩ := r1
    obtain ⟨e2, _⟩ := r2
    simp only [addD] at e
    by_cases h : x.length + y.length ≤ sLine
    · rw [if_pos h] at e
      cases e
      exact .inr (.inr (.inr ⟨_, _, e1, e2, h, done0 k ⟨rfl, rfl⟩⟩))
    · rw [if_neg h] at e; cases e
  · rename_i xs ys
    simp only [addD] at e
    by_cases h : xs.length + ys.length ≤ sLine
    · rw [if_pos h] at e
      cases e
      obtain ⟨a, vs, e1, h1, q1⟩ := r1
      obtain ⟨b, ws, e2, h2, q2⟩ := r2
      have q := q1.append q2
      refine .inr (.inl ⟨a, b, vs, ws, e1, e2, SqT.of h1, SqT.of h2, by rw [← q1.len, ← q2.len]; exact h, fun z => ?_, fun z z2 => ?_, fun _ _ p hp => ?_⟩)
      · subst z
        exact k (.ref b) H (F1 ++ F2) (Same.refl H) ⟨b, ws, rfl, h2, q⟩ nd fun a z => .inl z
      · subst z2
        rw [List.append_nil] at q
        exact k (.ref a) H (F1 ++ F2) (Same.refl H) ⟨a, vs, rfl, h1, q⟩ nd fun a z => .inl z
      · exact k (.ref p) _ (F1 ++ F2) (same_upd hp) ⟨p, vs ++ ws, rfl, upd_same, q.same (same_upd hp)⟩ nd fun a z => .inl z
    · rw [if_neg h] at e; cases e
  · rename_i o1 xs o2 ys
    simp only [addD] at e
    by_cases h : xs.length + ys.length ≤ sLine
    · rw [if_pos h] at e
      cases e
      obtain ⟨a, vs, G1, e1, h1, q1, sb1, _⟩ := r1.lst_at
      obtain ⟨b, ws, G2, e2, h2, q2, sb2, _⟩ := r2.lst_at
      have q := ((q1.mono fun _ => Or.inl).frz fun a z => av a (List.mem_append_left _ (sb1.subset z))).append ((q2.mono fun _ => Or.inl).frz fun a z => av a (List.mem_append_right _ (sb2.subset z)))
      refine .inr (.inr (.inl ⟨a, b, vs, ws, e1, e2, h1, h2, by rw [← q1.len, ← q2.len]; exact h, fun p hp => ?_⟩))
      obtain ⟨n1, n2⟩ := new_lst hp q.nilF List.nodup_nil
      exact k (.ref p) _ [p] (same_upd hp) n1 n2 fun a z => .inr (by rw [List.mem_singleton.mp z]; exact hp)
    · rw [if_neg h] at e; cases e

/-! ### == of data -/
mutual
def toPy : O → PyData
  | .non => .none
  | .bl b => .bool b
  | .int i => .int i
  | .str x => .str x
  | .tup xs => .tuple (toPys xs)
  | .kt ns => .tuple (ns.map .int)
  | .lst _ xs => .list (toPys xs)
  | .dK _ _ _ => .dict []
  | .dT _ _ _ => .dict []
  | .scr _ => .dict []
  | .anc _ => .dict []
def toPys : List O → List PyData
  | [] => []
  | x :: xs => toPy x :: toPys xs
end
theorem kt_lay : ∀ ns : List Int, PyData.canLayAll0 (ns.map PyData.int) = true ∧ PyData.depthAll (ns.map PyData.int) = 0
  | [] => ⟨rfl, rfl⟩
  | n :: ns => by
    obtain ⟨a, b⟩ := kt_lay ns
    refine ⟨?_, ?_⟩
    · show ((PyData.int n).canLay0 && PyData.canLayAll0 (ns.map PyData.int)) = true
      rw [a]; rfl
    · show max (PyData.int n).depth (PyData.depthAll (ns.map PyData.int)) = 0
      rw [b]; rfl
theorem kt_dp {K : PySem.W.Frag} {H : Hp} : ∀ ns : List Int, DpAll K H (ns.map V.int) (ns.map PyData.int)
  | [] => .nil
  | n :: ns => .cons (.int n) (kt_dp ns)
theorem shs_of : ∀ {n : Nat} {xs : List O}, (∀ {x : O}, shO n x = true → (toPy x).canLay0 = true ∧ (toPy x).depth ≤ n) → xs.all (shO n) = true → PyData.canLayAll0 (toPys xs) = true ∧ PyData.depthAll (toPys xs) ≤ n
  | n, [], _, _ => ⟨rfl, Nat.zero_le _⟩
  | n, x :: xs, ih, h => by
    rw [List.all_cons, Bool.and_eq_true] at h
    obtain ⟨a, b⟩ := ih h.1
    obtain ⟨c, d⟩ := shs_of ih h.2
    refine ⟨?_, ?_⟩
    · show ((toPy x).canLay0 && PyData.canLayAll0 (toPys xs)) = true
      rw [a, c]; rfl
    · show max (toPy x).depth (PyData.depthAll (toPys xs)) ≤ n
      omega
theorem sh_of : ∀ (n : Nat) {x : O}, shO n x = true → (toPy x).canLay0 = true ∧ (toPy x).depth ≤ n
  | n, .non, _ => ⟨rfl, Nat.zero_le _⟩
  | n, .bl _, _ => ⟨rfl, Nat.zero_le _⟩
  | n, .int _, _ => ⟨rfl, Nat.zero_le _⟩
  | n, .str x, h => by cases n <;> exact ⟨h, Nat.zero_le _⟩
  | n + 1, .tup xs, h => by
    obtain ⟨a, b⟩ := shs_of (sh_of n) (show xs.all (shO n) = true from h)
    exact ⟨a, Nat.succ_le_succ b⟩
  | n + 1, .lst _ xs, h => by
    obtain ⟨a, b⟩ := shs_of (sh_of n) (show xs.all (shO n) = true from h)
    exact ⟨a, Nat.succ_le_succ b⟩
  | n + 1, .kt ns, _ => ⟨(kt_lay ns).1, by show (PyData.depthAll (ns.map PyData.int)) + 1 ≤ n + 1; rw [(kt_lay ns).2]; omega⟩
  | 0, .kt _, h => nomatch h
  | 0, .tup xs, h => nomatch h
  | 0, .lst _ xs, h => nomatch h
  | 0, .dK _ _ _, h => nomatch h
  | n + 1, .dK _ _ _, h => nomatch h
  | 0, .dT _ _ _, h => nomatch h
  | n + 1, .dT _ _ _, h => nomatch h
  | 0, .scr _, h => nomatch h
  | n + 1, .scr _, h => nomatch h
  | 0, .anc _, h => nomatch h
  | n + 1, .anc _, h => nomatch h
theorem shaped_of {x : O} (h : shO 20 x = true) : SeqAt.shaped (toPy x) = true := by
  obtain ⟨a, b⟩ := sh_of 20 h
  unfold SeqAt.shaped
  rw [a, decide_eq_true (by omega)]
  rfl
mutual
theorem Rp.dp {B : Addr → Prop} {H : Hp} : ∀ {o : O} {v : V} {F : List Addr} {n : Nat}, shO n o = true → Rp K H B o v F → Dp K H v (toPy o)
  | .non, _, _, _, _, h => by rw [h.1]; exact .non
  | .bl _, _, _, _, _, h => by rw [h.1]; exact .bl _
  | .int _, _, _, _, _, h => by rw [h.1]; exact .int _
  | .str _, _, _, _, _, h => by rw [h.1]; exact .str _
  | .tup xs, v, F, n + 1, c, h => by
    obtain ⟨a, vs, h1, h2, h3⟩ := h
    rw [h1]
    exact .tup (SqT.of h2) (Rps.dp (show xs.all (shO n) = true from c) h3)
  | .lst own xs, v, F, n + 1, c, h => by
    cases own with
    | false =>
      obtain ⟨a, vs, h1, h2, h3, rfl, h5⟩ := h
      rw [h1]
      exact .lst (SqL.of h2) (Rps.dp (show xs.all (shO n) = true from c) h5)
    | true =>
      obtain ⟨a, vs, G, h1, h2, rfl, h4⟩ := h
      rw [h1]
      exact .lst (SqL.of h2) (Rps.dp (show xs.all (shO n) = true from c) h4)
  | .kt ns, v, F, n + 1, c, h => by
    obtain ⟨a, h1, _, h3⟩ := h
    rw [h1]
    exact .tup (h3.sq H) (kt_dp ns)
  | .kt _, v, F, 0, c, h => nomatch c
  | .tup xs, v, F, 0, c, h => nomatch c
  | .lst _ xs, v, F, 0, c, h => nomatch c
  | .dK _ _ _, v, F, 0, c, h => nomatch c
  | .dT _ _ _, v, F, 0, c, h => nomatch c
  | .scr _, v, F, 0, c, h => nomatch c
  | .anc _, v, F, 0, c, h => nomatch c
  | .dK _ _ _, v, F, n + 1, c, h => nomatch c
  | .dT _ _ _, v, F, n + 1, c, h => nomatch c
  | .scr _, v, F, n + 1, c, h => nomatch c
  | .anc _, v, F, n + 1, c, h => nomatch c
theorem Rps.dp {B : Addr → Prop} {H : Hp} : ∀ {os : List O} {vs : List V} {F : List Addr} {n : Nat}, os.all (shO n) = true → Rps K H B os vs F → DpAll K H vs (toPys os)
  | [], _, _, _, _, h => by rw [h.1]; exact .nil
  | o :: os, _, _, n, c, h => by
    obtain ⟨v, vr, F1, F2, h1, h2, h3, h4⟩ := h
    subst h1 h2
    rw [List.all_cons, Bool.and_eq_true] at c
    exact .cons (Rp.dp c.1 h3) (Rps.dp c.2 h4)
end
theorem eqK_py : ∀ (is : List Int) (ys : List O), PyData.eqvAll (is.map PyData.int) (toPys ys) = eqK is ys
  | [], [] => rfl
  | [], _ :: _ => rfl
  | _ :: _, [] => rfl
  | i :: is, y :: ys => by
    show (PyData.eqv (PyData.int i) (toPy y) && PyData.eqvAll (is.map PyData.int) (toPys ys)) = _
    rw [eqK_py is ys]
    cases y <;> first | rfl | (cases ‹Bool› <;> rfl)
theorem eqK'_py : ∀ (xs : List O) (js : List Int), PyData.eqvAll (toPys xs) (js.map PyData.int) = eqK' xs js
  | [], [] => rfl
  | [], _ :: _ => rfl
  | _ :: _, [] => by simp [toPys, PyData.eqvAll]
  | x :: xs, j :: js => by
    show (PyData.eqv (toPy x) (PyData.int j) && PyData.eqvAll (toPys xs) (js.map PyData.int)) = _
    rw [eqK'_py xs js]
    cases x <;> first | rfl | (cases ‹Bool› <;> rfl)
theorem eqKK_py : ∀ (is js : List Int), PyData.eqvAll (is.map PyData.int) (js.map PyData.int) = eqKK is js
  | [], [] => rfl
  | [], _ :: _ => rfl
  | _ :: _, [] => rfl
  | i :: is, j :: js => by
    show (PyData.eqv (PyData.int i) (PyData.int j) && PyData.eqvAll (is.map PyData.int) (js.map PyData.int)) = _
    rw [eqKK_py is js]; rfl
mutual
theorem eqo_py : ∀ {n m : Nat} (x y : O), shO n x = true → shO m y = true → PyData.eqv (toPy x) (toPy y) = eqo x y
  | n, m, x, y, hx, hy => by
    cases x <;> cases y <;> first
      | rfl
      | (cases n <;> cases hx <;> done)
      | (cases m <;> cases hy <;> done)
      | skip
    · rename_i xs ys
      cases n with
      | zero => exact nomatch hx
      | succ n => cases m with
        | zero => exact nomatch hy
        | succ m => exact eqos_py xs ys hx hy
    · exact eqK'_py _ _
    · exact eqK_py _ _
    · exact eqKK_py _ _
    · rename_i o1 xs o2 ys
      cases n with
      | zero => exact nomatch hx
      | succ n => cases m with
        | zero => exact nomatch hy
        | succ m => exact eqos_py xs ys hx hy
theorem eqos_py : ∀ {n m : Nat} (xs ys : List O), xs.all (shO n) = true → ys.all (shO m) = true → PyData.eqvAll (toPys xs) (toPys ys) = eqos xs ys
  | _, _, [], [], _, _ => rfl
  | _, _, [], _ :: _, _, _ => rfl
  | _, _, _ :: _, [], _, _ => rfl
  | n, m, x :: xs, y :: ys, hx, hy => by
    rw [List.all_cons, Bool.and_eq_true] at hx hy
    show (PyData.eqv (toPy x) (toPy y) && PyData.eqvAll (toPys xs) (toPys ys)) = (eqo x y && eqos xs ys)
    rw [eqo_py x y hx.1 hy.1, eqos_py xs ys hx.2 hy.2]
end
end
end Dv

end
section
set_option Elab.async false
set_option linter.all false
set_option maxRecDepth 100000
/-! Dl: places, slices, built-ins, calls, walks, loops, comprehensions, defs. -/
namespace Dv
open PySem PySem.Spec L2
open PyProof.Rows hiding St
section
variable {K : PySem.W.Frag} {X : Cx} {a b c e : Expr} {es : List Expr} {na nb nc ns ms : List Nat} {fa fb fc f g : SE} {fs : SEs} {pos : Pos}
theorem o_eq : Op2 K eqD (rEqD K) := by
  intro B H x y o v1 v2 F1 F2 Q e r1 r2 nd av k
  unfold eqD at e
  by_cases h : (shO 20 x && shO 20 y) = true
  · rw [if_pos h] at e
    cases e
    rw [Bool.and_eq_true] at h
    exact ⟨toPy x, toPy y, r1.dp h.1, r2.dp h.2, shaped_of h.1, shaped_of h.2, by rw [eqo_py x y h.1 h.2]; exact done0 k ⟨rfl, rfl⟩⟩
  · rw [if_neg h] at e; cases e
theorem o_ne : Op2 K neD (rNeD K) := by
  intro B H x y o v1 v2 F1 F2 Q e r1 r2 nd av k
  unfold neD at e
  by_cases h : (shO 20 x && shO 20 y) = true
  · rw [if_pos h] at e
    cases e
    rw [Bool.and_eq_true] at h
    exact ⟨toPy x, toPy y, r1.dp h.1, r2.dp h.2, shaped_of h.1, shaped_of h.2, by rw [eqo_py x y h.1 h.2]; exact done0 k ⟨rfl, rfl⟩⟩
  · rw [if_neg h] at e; cases e
theorem isN_rp {B : Addr → Prop} {H : Hp} {x o : O} {v : V} {F : List Addr} (h : isND x = some o) (r : Rp K H B x v F) : o = .bl (decide (v = .non)) := by
  cases x with
  | non => obtain ⟨h1, _⟩ := r; subst h1; cases h; simp
  | bl _ => obtain ⟨h1, _⟩ := r; subst h1; cases h; simp
  | int _ => obtain ⟨h1, _⟩ := r; subst h1; cases h; simp
  | str _ => obtain ⟨h1, _⟩ := r; subst h1; cases h; simp
  | scr _ => cases h
  | anc _ => cases h
  | tup _ => obtain ⟨_, _, h1, _⟩ := r; subst h1; cases h; simp
  | kt _ => obtain ⟨_, h1, _⟩ := r; subst h1; cases h; simp
  | lst own _ => cases own <;> (cases h) <;> first | (obtain ⟨_, _, h1, _⟩ := r; subst h1; simp) | (obtain ⟨_, _, _, h1, _⟩ := r; subst h1; simp)
  | dK own _ _ => cases own <;> (cases h) <;> first | (obtain ⟨_, _, h1, _⟩ := r; subst h1; simp) | (obtain ⟨_, _, _, h1, _⟩ := r; subst h1; simp)
  | dT own _ _ => cases own <;> (cases h) <;> first | (obtain ⟨_, _, h1, _⟩ := r; subst h1; simp) | (obtain ⟨_, _, _, h1, _⟩ := r; subst h1; simp)
theorem notN_of {x : O} {o : O} (h : notND x = some o) : ∃ k, isND x = some (.bl k) ∧ o = .bl (!k) := by
  cases x <;> first | (cases h; done) | (cases h; exact ⟨_, rfl, rfl⟩)
theorem o_isN : Op2 K isN2 (fun x y H Q => y = .non ∧ Q (.bl (decide (x = .non))) H) := by
  intro B H x y o v1 v2 F1 F2 Q e r1 r2 nd av k
  cases y <;> first | (cases e; done) | skip
  obtain ⟨e2, _⟩ := r2
  have h := isN_rp (show isND x = some o from e) r1
  subst h
  exact ⟨e2, done0 k ⟨rfl, rfl⟩⟩
theorem o_notN : Op2 K notN2 (fun x y H Q => y = .non ∧ Q (.bl (!decide (x = .non))) H) := by
  intro B H x y o v1 v2 F1 F2 Q e r1 r2 nd av k
  cases y <;> first | (cases e; done) | skip
  obtain ⟨e2, _⟩ := r2
  obtain ⟨b, h1, h2⟩ := notN_of (show notND x = some o from e)
  have h := isN_rp h1 r1
  cases h
  subst h2
  exact ⟨e2, done0 k ⟨rfl, rfl⟩⟩

/-! ### places -/
theorem at_ixN {α : Type} {xs : List α} {i : Int} {o : α} (h : at? xs i = some o) : ∃ j, ixN xs.length i = some j ∧ xs[j]? = some o := by
  unfold at? at h
  by_cases h0 : 0 ≤ i
  · rw [if_pos h0] at h
    obtain ⟨h1, _⟩ := List.getElem?_eq_some_iff.mp h
    refine ⟨i.toNat, ?_, h⟩
    unfold ixN
    rw [if_pos h0, if_pos (by omega)]
  · rw [if_neg h0] at h
    by_cases h1 : -(xs.length : Int) ≤ i
    · rw [if_pos h1] at h
      refine ⟨(i + xs.length).toNat, ?_, h⟩
      unfold ixN
      rw [if_neg h0, if_pos h1]
    · rw [if_neg h1] at h; cases h
theorem atI_rp {B : Addr → Prop} {H : Hp} {xs : List O} {vs : List V} {F : List Addr} {i : Int} {o : O} (r : Rps K H B xs vs F) (h : at? xs i = some o) : ∃ v F1, atI vs i = some v ∧ Rp K H B o v F1 ∧ F1.Sublist F := by
  obtain ⟨j, h1, h2⟩ := at_ixN h
  obtain ⟨v, F1, e1, e2, e3⟩ := r.at h2
  refine ⟨v, F1, ?_, e2, e3⟩
  unfold atI
  rw [← r.len, h1]
  exact e1
def rIxD (K : PySem.W.Frag) : R2 := fun x y H Q => rIxL K x y H Q ∨ rIxT K x y H Q
theorem ix_D : IxR X (rIxD X.K) := ix_list.or ix_tup
theorem o_ix : Op2 K ixD (rIxD K) := by
  intro B H x y o v1 v2 F1 F2 Q e r1 r2 nd av k
  have nd1 : F1.Nodup := (List.nodup_append.mp nd).1
  cases x <;> cases y <;> first | (cases e; done) | skip
  · rename_i xs i
    obtain ⟨a, vs, e1, h1, q1⟩ := r1
    obtain ⟨e2, _⟩ := r2
    obtain ⟨v, G, h2, h3, h4⟩ := atI_rp q1 (show at? xs i = some o from e)
    exact .inr ⟨a, vs, i, v, e1, e2, (SqT.of h1), h2, k v H G (Same.refl H) (h3.mono fun z q => q.imp id fun q => List.mem_append_left _ (h4.subset q)) (h4.nodup nd1) fun z q => .inl (List.mem_append_left _ (h4.subset q))⟩
  · rename_i ns i
    obtain ⟨a, e1, _, h1⟩ := r1
    obtain ⟨e2, _⟩ := r2
    obtain ⟨z, hz, e⟩ : ∃ z, at? ns i = some z ∧ O.int z = o := by
      cases q : at? ns i with
      | none => simp [q] at e
      | some z => simp [q] at e; exact ⟨z, rfl, e⟩
    subst e
    obtain ⟨j, hj1, hj2⟩ := at_ixN hz
    refine .inr ⟨a, ns.map V.int, i, .int z, e1, e2, h1.sq H, ?_, done0 k ⟨rfl, rfl⟩⟩
    unfold atI
    rw [List.length_map, hj1]
    show (ns.map V.int)[j]? = _
    rw [List.getElem?_map, hj2]; rfl
  · rename_i own xs i
    obtain ⟨a, vs, G1, e1, h1, q1, sb, _⟩ := r1.lst_at
    obtain ⟨e2, _⟩ := r2
    obtain ⟨v, G, h2, h3, h4⟩ := atI_rp q1 (show at? xs i = some o from e)
    have h5 := h4.trans sb
    exact .inl ⟨a, vs, i, v, e1, e2, SqL.of h1, h2, k v H G (Same.refl H) (h3.mono fun z q => q.imp id fun q => List.mem_append_left _ (h5.subset q)) (h5.nodup nd1) fun z q => .inl (List.mem_append_left _ (h5.subset q))⟩
theorem de_ix (ha : DE X na a fa) (hb : DE X nb b fb) (hs : PlainIx b) : DE X (na ++ nb) (.Subscript a b pos) (x2 ixD fa fb) :=
  (pe_ix ix_D ha hb hs).byD fun σ H Q q => r2_imp o_ix σ H Q q

/-! ### slices -/
def tO (K : PySem.W.Frag) (f : SP) : TO := fun σ H Q => ∃ H0 B0 τ Fs p, RS K H0 B0 H σ τ Fs ∧ f τ = some p ∧ ∀ H', Same H H' → Q p H'
abbrev DP (X : Cx) (e : Option Expr) (f : SP) : Prop := PO X e (tO X.K f)
theorem _root_.L2.PO.byD {X : Cx} {e : Option Expr} {t t' : TO} (h : PO X e t) (i : ∀ σ H Q, t' σ H Q → t σ H Q) : PO X e t' := ⟨fun pins s σ H Q I q => h.run pins s σ H Q I (i σ H Q q)⟩
theorem dp_none : DP X none pN := by
  refine po_none.byD fun σ H Q h => ?_
  obtain ⟨H0, B0, τ, Fs, p, rs, hp, k⟩ := h
  cases hp
  exact k H (Same.refl H)
theorem dp_some (h : DE X ns e f) : DP X (some e) (pI f) := by
  refine (po_some h).byD fun σ H Q h => ?_
  obtain ⟨H0, B0, τ, Fs, p, rs, hp, k⟩ := h
  obtain ⟨x, hx, hp⟩ := bind_some hp
  refine ⟨H0, B0, τ, Fs, x, rs, hx, fun v H1 F s r n f => ?_⟩
  cases x with
  | int i =>
    cases hp
    obtain ⟨e1, _⟩ := r
    exact ⟨i, e1, k H1 s⟩
  | _ => cases hp
theorem sIx_eq (n d : Nat) (o : Option Int) : HT.sIx n d o = sIx n d o := by cases o <;> rfl
theorem cut_rp {B : Addr → Prop} {H : Hp} {xs : List O} {vs : List V} {F : List Addr} (lo hi : Option Int) (r : Rps K H B xs vs F) : ∃ G, Rps K H B (cut xs lo hi) (cutV vs lo hi) G ∧ G.Sublist F := by
  have hl := r.len
  obtain ⟨G1, a1, b1⟩ := r.drop (sIx xs.length 0 lo)
  obtain ⟨G2, a2, b2⟩ := a1.take (sIx xs.length xs.length hi - sIx xs.length 0 lo)
  refine ⟨G2, ?_, b2.trans b1⟩
  unfold cutV cut
  rw [sIx_eq, sIx_eq, ← hl]
  exact a2
def rSlD (K : PySem.W.Frag) : V → Option Int → Option Int → Hp → VK → Prop := fun x lo hi H Q => rSlL K x lo hi H Q ∨ rSlA K x lo hi H Q
theorem sl_D : SlR X (rSlD X.K) := sl_list.or sl_tupA
theorem cut_whole {α : Type} {xs : List α} {lo hi : Option Int} (h : sIx xs.length 0 lo = 0 ∧ sIx xs.length xs.length hi = xs.length) : cut xs lo hi = xs := by
  unfold cut
  rw [h.1, h.2, List.drop_zero, Nat.sub_zero, List.take_length]
theorem de_sl {lo hi : Option Expr} {p q : SP} {p2 : Pos} (ha : DE X na a fa) (hl : DP X lo p) (hh : DP X hi q) : DE X na (.Subscript a (.Slice lo hi none p2) pos) (xSl fa p q) := by
  refine (pe_slice sl_D ha hl hh).byD fun σ H Q h => ?_
  obtain ⟨H0, B0, τ, Fs, o, rs, ho, k⟩ := h
  obtain ⟨x, hx, ho⟩ := bind_some ho
  obtain ⟨l, hl', ho⟩ := bind_some ho
  obtain ⟨u, hu, ho⟩ := bind_some ho
  refine ⟨H0, B0, τ, Fs, x, rs, hx, fun v1 H1 F1 s1 r1 n1 f1 => ⟨H0, B0, τ, Fs, l, rs.go s1, hl', fun H2 s2 => ⟨H0, B0, τ, Fs, u, (rs.go s1).go s2, hu, fun H3 s3 => ?_⟩⟩⟩
  have r3 := r1.same (s2.trans s3)
  have s4 := s1.trans (s2.trans s3)
  cases x with
  | scr m =>
    cases ho
    obtain ⟨a', e1, e2, h2⟩ := r3
    refine .inl ⟨a', _, e1, h2 H3 fun _ _ z => z, fun p hp => ?_⟩
    have hc : cutV (m.map V.int) l u = (cut m l u).map V.int := by
      unfold cutV cut
      rw [sIx_eq, sIx_eq, List.length_map, ← List.map_drop, ← List.map_take]
    obtain ⟨n3, n4⟩ := new_lst (B := Av B0 na Fs) hp (Rps.nilF (Rps.ints (K := X.K) hc)) List.nodup_nil
    exact k (.ref p) _ [p] (s4.trans (same_upd hp)) n3 n4 fun z q => by rw [List.mem_singleton.mp q]; exact s4.free hp
  | tup xs =>
    cases ho
    obtain ⟨a', vs, e1, h2, q3⟩ := r3
    obtain ⟨G, q4, q5⟩ := cut_rp l u q3
    have hlen := q3.len
    refine .inr ⟨a', vs, e1, (SqT.of h2), fun hw => ?_, fun hw p hp => ?_⟩
    · rw [sIx_eq, sIx_eq, ← hlen] at hw
      rw [cut_whole hw] at k
      exact k (.ref a') H3 F1 s4 ⟨a', vs, rfl, h2, q3⟩ n1 f1
    · exact k (.ref p) _ G (s4.trans (same_upd hp)) ⟨p, cutV vs l u, rfl, upd_same, (q4.same (same_upd hp)).mono fun z q => q.imp id fun q => q5.subset q⟩ (q5.nodup n1) fun z q => f1 z (q5.subset q)
  | lst own xs =>
    cases ho
    obtain ⟨a', vs, G1, e1, h2, q3, sb, _⟩ := r3.lst_at
    obtain ⟨G, q4, q5⟩ := cut_rp l u q3
    have q6 := q5.trans sb
    refine .inl ⟨a', vs, e1, SqL.of h2, fun p hp => ?_⟩
    obtain ⟨n3, n4⟩ := new_lst (B := Av B0 na Fs) hp (q4.mono fun z q => q.imp id fun q => q6.subset q) (q6.nodup n1)
    refine k (.ref p) _ (p :: G) (s4.trans (same_upd hp)) n3 n4 fun z q => ?_
    rcases List.mem_cons.mp q with rfl | q
    · exact s4.free hp
    · exact f1 z (q6.subset q)
  | _ => cases ho

/-! ### built-ins -/
theorem rN_imp {r : List V → Hp → VK → Prop} {h : List O → Option O} (ho : OpN X.K h r) (σ : St) (H : Hp) (Q : VK) (q : tE X.K ns (xF h fs) σ H Q) : tA X.K ns fs σ H fun vs H1 => r vs H1 Q := by
  obtain ⟨H0, B0, τ, Fs, o, rs, ho', k⟩ := q
  obtain ⟨xs, hx, ho'⟩ := bind_some ho'
  refine ⟨H0, B0, τ, Fs, xs, rs, hx, fun vs H1 F s1 r1 n1 f1 => ?_⟩
  refine ho (Av B0 ns Fs) H1 xs o vs F Q ho' r1 n1 (fun a z => avB rs (f1 a z)) fun v H' F' s r n' f' => k v H' F' (s1.trans s) r n' fun a z => ?_
  rcases f' a z with z | z
  · exact f1 a z
  · exact s1.free z
theorem de_callB {r : List V → Hp → VK → Prop} {h : List O → Option O} {id : String} {x : Str} {p : Pos} (hc : CallR X (.builtin id) r) (ho : OpN X.K h r) (hm : X.mg x = none) (hv : bootBuiltins x = some (.builtin id)) (ha : DA X ns (e :: es) fs) (hg : Gl X x := by rfl) (hn : x ≠ "__name__" := by decide) (hdb : (x == ("__debug__" : Str)) = false := by decide)
    (he : starEach (e :: es) X.env = (false, eval e X.env) :: starEach es X.env := by rfl) (hpl : (backTo pos (starEach es X.env)).any (·.1) = false := by rfl) : DE X ns (.Call (.Name x p) (e :: es) [] pos) (xF h fs) :=
  (pe_callB hc hg hm hv ha hn hdb he hpl).byD fun σ H Q q => rN_imp ho σ H Q q
theorem de_callTy {r : List V → Hp → VK → Prop} {h : List O → Option O} {T : String} {x : Str} {p : Pos} (hc : CallR X (.type T) r) (ho : OpN X.K h r) (hm : X.mg x = none) (hv : bootBuiltins x = some (.type T)) (ha : DA X ns (e :: es) fs) (hg : Gl X x := by rfl) (hn : x ≠ "__name__" := by decide) (hdb : (x == ("__debug__" : Str)) = false := by decide)
    (he : starEach (e :: es) X.env = (false, eval e X.env) :: starEach es X.env := by rfl) (hpl : (backTo pos (starEach es X.env)).any (·.1) = false := by rfl) : DE X ns (.Call (.Name x p) (e :: es) [] pos) (xF h fs) :=
  (pe_callTy hc hg hm hv ha hn hdb he hpl).byD fun σ H Q q => rN_imp ho σ H Q q
theorem rps1 {B : Addr → Prop} {H : Hp} {x : O} {vs : List V} {F : List Addr} (h : Rps K H B [x] vs F) : ∃ v, vs = [v] ∧ Rp K H B x v F := by
  obtain ⟨v, vr, F1, F2, h1, h2, h3, h4, h5⟩ := h
  subst h4 h5
  rw [List.append_nil] at h2
  subst h2
  exact ⟨v, h1, h3⟩
theorem rps2 {B : Addr → Prop} {H : Hp} {x y : O} {vs : List V} {F : List Addr} (h : Rps K H B [x, y] vs F) : ∃ v w F1 F2, vs = [v, w] ∧ F = F1 ++ F2 ∧ Rp K H B x v F1 ∧ Rp K H B y w F2 := by
  obtain ⟨v, vr, F1, F2, h1, h2, h3, h4⟩ := h
  obtain ⟨w, e, r⟩ := rps1 h4
  subst e
  exact ⟨v, w, F1, F2, h1, h2, h3, r⟩
def rLenD (K : PySem.W.Frag) : List V → Hp → VK → Prop := fun xs H Q => (∃ p ys, xs = [.ref p] ∧ (SqL K H p ys ∨ SqT K H p ys) ∧ Q (.int ys.length) H) ∨ (∃ z, xs = [.str z] ∧ z.length ≤ sizeLine ∧ Q (.int z.length) H)
theorem c_len : CallR X (.builtin "len") (rLenD X.K) := call_len_seq.or call_len_str
theorem o_len : OpN K lenD' (rLenD K) := by
  intro B H xs o vs F Q e r nd av k
  match xs, e with
  | [.tup xs], e =>
    cases e
    obtain ⟨v, rfl, r1⟩ := rps1 r
    obtain ⟨a, ws, rfl, h2, q⟩ := r1
    exact .inl ⟨a, ws, rfl, .inr (SqT.of h2), by rw [← q.len]; exact done0 k ⟨rfl, rfl⟩⟩
  | [.kt ns], e =>
    cases e
    obtain ⟨v, rfl, r1⟩ := rps1 r
    obtain ⟨a, rfl, _, h2⟩ := r1
    exact .inl ⟨a, _, rfl, .inr (h2.sq H), by rw [List.length_map]; exact done0 k ⟨rfl, rfl⟩⟩
  | [.lst own xs], e =>
    cases e
    obtain ⟨v, rfl, r1⟩ := rps1 r
    obtain ⟨a, ws, G, rfl, h2, q, _⟩ := r1.lst_at
    exact .inl ⟨a, ws, rfl, .inl (SqL.of h2), by rw [← q.len]; exact done0 k ⟨rfl, rfl⟩⟩
  | [.str x], e =>
    obtain ⟨v, rfl, r1⟩ := rps1 r
    obtain ⟨rfl, _⟩ := r1
    simp only [lenD'] at e
    by_cases h : x.length ≤ sLine
    · rw [if_pos h] at e
      cases e
      exact .inr ⟨x, rfl, h, done0 k ⟨rfl, rfl⟩⟩
    · rw [if_neg h] at e; cases e
theorem o_abs : OpN K absD (fun xs H Q => ∃ i, xs = [.int i] ∧ Q (.int (if i < 0 then -i else i)) H) := by
  intro B H xs o vs F Q e r nd av k
  match xs, e with
  | [.int i], e =>
    cases e
    obtain ⟨v, rfl, r1⟩ := rps1 r
    obtain ⟨rfl, _⟩ := r1
    exact ⟨i, rfl, done0 k ⟨rfl, rfl⟩⟩
theorem o_int : OpN K intD (fun xs H Q => (∃ i, xs = [.int i] ∧ Q (.int i) H) ∨ ∃ k, xs = [.bl k] ∧ Q (.int (if k then 1 else 0)) H) := by
  intro B H xs o vs F Q e r nd av k
  match xs, e with
  | [.int i], e =>
    cases e
    obtain ⟨v, rfl, r1⟩ := rps1 r
    obtain ⟨rfl, _⟩ := r1
    exact .inl ⟨i, rfl, done0 k ⟨rfl, rfl⟩⟩
  | [.bl i], e =>
    cases e
    obtain ⟨v, rfl, r1⟩ := rps1 r
    obtain ⟨rfl, _⟩ := r1
    exact .inr ⟨i, rfl, done0 k ⟨rfl, rfl⟩⟩
theorem o_max : OpN K maxD (fun xs H Q => ∃ i j, xs = [.int i, .int j] ∧ Q (.int (if j > i then j else i)) H) := by
  intro B H xs o vs F Q e r nd av k
  match xs, e with
  | [.int i, .int j], e =>
    cases e
    obtain ⟨v, w, F1, F2, rfl, _, r1, r2⟩ := rps2 r
    obtain ⟨rfl, _⟩ := r1
    obtain ⟨rfl, _⟩ := r2
    exact ⟨i, j, rfl, done0 k ⟨rfl, rfl⟩⟩
theorem o_min : OpN K minD (fun xs H Q => ∃ i j, xs = [.int i, .int j] ∧ Q (.int (if j < i then j else i)) H) := by
  intro B H xs o vs F Q e r nd av k
  match xs, e with
  | [.int i, .int j], e =>
    cases e
    obtain ⟨v, w, F1, F2, rfl, _, r1, r2⟩ := rps2 r
    obtain ⟨rfl, _⟩ := r1
    obtain ⟨rfl, _⟩ := r2
    exact ⟨i, j, rfl, done0 k ⟨rfl, rfl⟩⟩
theorem o_all : OpN K allD (rAll K) := by
  intro B H xs o vs F Q e r nd av k
  match xs, e with
  | [.lst own xs], e =>
    obtain ⟨bs, hb, e⟩ := bind_some (show ((allB xs).bind fun bs => some (O.bl (bs.all id))) = some o from e)
    cases e
    obtain ⟨v, rfl, r1⟩ := rps1 r
    obtain ⟨a, ws, G, rfl, h2, q, _⟩ := r1.lst_at
    have := q.bls hb
    subst this
    exact ⟨a, bs, rfl, SqL.of h2, done0 k ⟨rfl, rfl⟩⟩
theorem o_any : OpN K anyD (rAny K) := by
  intro B H xs o vs F Q e r nd av k
  match xs, e with
  | [.lst own xs], e =>
    obtain ⟨bs, hb, e⟩ := bind_some (show ((allB xs).bind fun bs => some (O.bl (bs.any id))) = some o from e)
    cases e
    obtain ⟨v, rfl, r1⟩ := rps1 r
    obtain ⟨a, ws, G, rfl, h2, q, _⟩ := r1.lst_at
    have := q.bls hb
    subst this
    exact ⟨a, bs, rfl, SqL.of h2, done0 k ⟨rfl, rfl⟩⟩
theorem o_list : OpN K listD (fun xs H Q => ∃ p ys, xs = [.ref p] ∧ (SqL K H p ys ∨ SqT K H p ys) ∧ ∀ l, H l = none → Q (.ref l) (upd H l (.lst ys))) := by
  intro B H xs o vs F Q e r nd av k
  have fin : ∀ {ys : List O} {ws : List V} {G : List Addr}, Rps K H (Bor B F) ys ws G → G.Sublist F → o = .lst true (frzs ys) → ∀ l, H l = none → Q (.ref l) (upd H l (.lst ws)) := fun {ys ws G} q sb eo l hl => by
    subst eo
    have q2 := (q.mono fun _ => Or.inl).frz (fun a z => av a (sb.subset z))
    obtain ⟨n3, n4⟩ := new_lst (B := B) hl q2.nilF List.nodup_nil
    exact k (.ref l) _ [l] (same_upd hl) n3 n4 fun z q => .inr (by rw [List.mem_singleton.mp q]; exact hl)
  match xs, e with
  | [.tup xs], e =>
    cases e
    obtain ⟨v, rfl, r1⟩ := rps1 r
    obtain ⟨a, ws, rfl, h2, q⟩ := r1
    exact ⟨a, ws, rfl, .inr (SqT.of h2), fin q (List.Sublist.refl _) rfl⟩
  | [.lst own xs], e =>
    cases e
    obtain ⟨v, rfl, r1⟩ := rps1 r
    obtain ⟨a, ws, G, rfl, h2, q, sb, _⟩ := r1.lst_at
    exact ⟨a, ws, rfl, .inl (SqL.of h2), fin q sb rfl⟩
/-- isinstance(x, T) -/
theorem ty_rp {B : Addr → Prop} {H : Hp} {x : O} {v : V} {F : List Addr} {T : Ty5} {o : O} (h : isiD T x = some o) (r : Rp K H B x v F) : ∃ t b, TyX K H v t ∧ o = .bl b ∧ PySem.W.kitOne K t (.type T.name) = some b := by
  cases x with
  | non => obtain ⟨rfl, _⟩ := r; cases h; exact ⟨_, _, .base .non, rfl, by cases T <;> exact kit_ty (by decide +kernel)⟩
  | bl _ => obtain ⟨rfl, _⟩ := r; cases h; exact ⟨_, _, .base (.bl _), rfl, by cases T <;> exact kit_ty (by decide +kernel)⟩
  | int _ => obtain ⟨rfl, _⟩ := r; cases h; exact ⟨_, _, .base (.int _), rfl, by cases T <;> exact kit_ty (by decide +kernel)⟩
  | str _ => obtain ⟨rfl, _⟩ := r; cases h; exact ⟨_, _, .base (.str _), rfl, by cases T <;> exact kit_ty (by decide +kernel)⟩
  | scr _ => cases h
  | anc _ => cases h
  | tup _ =>
    obtain ⟨a, vs, rfl, h2, _⟩ := r
    cases h
    have ty : TyX K H (.ref a) (.type "tuple") := .base (.tup h2)
    exact ⟨_, _, ty, rfl, by cases T <;> exact kit_ty (by decide +kernel)⟩
  | kt _ =>
    obtain ⟨a, rfl, _, o, its, n, h2, h3, _⟩ := r
    cases h
    exact ⟨_, _, .kTuple h2 h3, rfl, by cases T <;> exact kit_ty (by decide +kernel)⟩
  | lst own _ =>
    obtain ⟨a, vs, G, rfl, h2, _⟩ := r.lst_at
    cases h
    exact ⟨_, _, .base (.lst h2), rfl, by cases T <;> exact kit_ty (by decide +kernel)⟩
  | dK own _ _ =>
    have z : ∃ a kvs, v = .ref a ∧ Rd H a (.dK kvs) := by
      cases own with
      | false => obtain ⟨a, kvs, h1, h2, _⟩ := r; exact ⟨a, kvs, h1, h2⟩
      | true => obtain ⟨a, kvs, G, h1, h2, _⟩ := r; exact ⟨a, kvs, h1, .inl h2⟩
    obtain ⟨a, kvs, rfl, h2⟩ := z
    cases h
    have ty : TyX K H (.ref a) (.type "dict") := by
      rcases h2 with h2 | ⟨_, h2⟩
      · exact .base (.dK h2)
      · exact .fDict h2
    exact ⟨_, _, ty, rfl, by cases T <;> exact kit_ty (by decide +kernel)⟩
  | dT own _ _ =>
    have z : ∃ a kvs, v = .ref a ∧ H a = some (.dT kvs) := by
      cases own with
      | false => obtain ⟨a, kvs, h1, h2, _⟩ := r; exact ⟨a, kvs, h1, h2⟩
      | true => obtain ⟨a, kvs, G, h1, h2, _⟩ := r; exact ⟨a, kvs, h1, h2⟩
    obtain ⟨a, kvs, rfl, h2⟩ := z
    cases h
    exact ⟨_, _, .base (.dT h2), rfl, by cases T <;> exact kit_ty (by decide +kernel)⟩
end
end Dv

end
section
set_option Elab.async false
set_option linter.all false
set_option maxRecDepth 100000
/-! Dm: calls of defs, statements, walks, loops, comprehensions, the def's rule. -/
namespace Dv
open PySem PySem.Spec L2
open PyProof.Rows hiding St
section
variable {K : PySem.W.Frag} {X : Cx} {a b c e : Expr} {es : List Expr} {na nb nc ns ms : List Nat} {fa fb fc f g : SE} {fs : SEs} {pos : Pos}
/-- isinstance(x, T) -/
theorem de_isi {T : Ty5} {x y : Str} {p p2 : Pos} (ha : DE X ns a fa) (hm : X.mg x = none) (hv : bootBuiltins x = some (.builtin "isinstance")) (hm2 : X.mg y = none) (hv2 : bootBuiltins y = some (.type T.name)) (hg : Gl X x := by rfl) (hg2 : Gl X y := by rfl)
    (hn : x ≠ "__name__" := by decide) (hn2 : y ≠ "__name__" := by decide) (hdb : (x == ("__debug__" : Str)) = false := by decide) (hdb2 : (y == ("__debug__" : Str)) = false := by decide)
    (h1 : starEach [a, .Name y p2] X.env = (false, eval a X.env) :: starEach [.Name y p2] X.env := by rfl) (h2 : starEach [.Name y p2] X.env = (false, eval (.Name y p2) X.env) :: starEach [] X.env := by rfl) (hpl : (backTo pos (starEach [.Name y p2] X.env)).any (·.1) = false := by rfl) :
    DE X ns (.Call (.Name x p) [a, .Name y p2] [] pos) (x1 (isiD T) fa) := by
  have hy : PE X (.Name y p2) (tC (.ty T.name)) := pe_bltn hg2 hm2 hv2 rfl hn2 hdb2
  refine (pe_callB call_isi hg hm hv (pa_cons ha (pa_cons hy pa_nil h2) h1) hn hdb h1 hpl).byD fun σ H Q q => ?_
  obtain ⟨H0, B0, τ, Fs, o, rs, ho, k⟩ := q
  obtain ⟨x, hx, ho⟩ := bind_some ho
  refine ⟨H0, B0, τ, Fs, x, rs, hx, fun v1 H1 F1 s1 r1 n1 f1 => ?_⟩
  obtain ⟨t, b, ty, eb, kt⟩ := ty_rp ho r1
  subst eb
  exact ⟨v1, .ty T.name, t, .type T.name, b, rfl, .ty _, ty, kt, k _ H1 [] s1 ⟨rfl, rfl⟩ List.nodup_nil fun a z => nomatch z⟩

/-! ### a def's promise -/
def spF (K : PySem.W.Frag) (n : Nat) (fn : List O → Option O) : Sp := fun vs H Q _ => ∃ os B o, os.length = n ∧ Rps K H B os vs [] ∧ MutB B H ∧ fn os = some o ∧
  ∀ v H' F, Same H H' → Rp K H' (Bor B F) o v F → F.Nodup → (∀ a ∈ F, H a = none) → Q v H'
theorem de_call {k : Nat} {f : Addr} {fd : FuncData} {ps : List Str} {n : Nat} {fn : List O → Option O} {x : Str} {p : Pos} (F : FnOk X.prog X.w X.K X.mg X.base CX0 k f fd ps (spF X.K n fn)) (hr : Room k X.A) (hg : Gl X x) (hm : X.mg x = some (.ref f)) (hk : PySem.W.keepIn X.K (.ref f) = true) (hb : Binds X.K fd ps [])
    (ha : DA X ns (e :: es) fs) (hl : (e :: es).length = n) (hdb : (x == ("__debug__" : Str)) = false := by decide) (he : starEach (e :: es) X.env = (false, eval e X.env) :: starEach es X.env := by rfl) (hpl : (backTo pos (starEach es X.env)).any (·.1) = false := by rfl)
    (hlen : ∀ τ os, fs τ = some os → os.length = n := by intro τ os h; simp only [xsC, xsN, Option.bind_eq_some_iff, Option.some.injEq] at h; (try obtain ⟨_, _, _, h, rfl⟩ := h); (try obtain ⟨_, _, _, h, rfl⟩ := h); (try obtain ⟨_, _, _, h, rfl⟩ := h); (try obtain ⟨_, _, _, h, rfl⟩ := h); (try obtain ⟨_, _, _, h, rfl⟩ := h); (try obtain ⟨_, _, _, h, rfl⟩ := h); (try obtain ⟨_, _, _, h, rfl⟩ := h); subst h; rfl) :
    DE X ns (.Call (.Name x p) (e :: es) [] pos) (xCall fn fs) := by
  refine (pe_call F hr hg hm hk hb .nil pass0 ha hdb he hpl).byD fun σ H Q q => ?_
  obtain ⟨H0, B0, τ, Fs, o, rs, ho, k⟩ := q
  obtain ⟨xs, hx, ho⟩ := bind_some ho
  refine ⟨H0, B0, τ, Fs, xs, rs, hx, fun vs H1 F1 s1 r1 n1 f1 => ?_⟩
  show spF X.K n fn (vs ++ []) H1 Q E0
  rw [List.append_nil]
  refine ⟨frzs xs, Av B0 ns Fs, o, ?_, (r1.mono fun _ => Or.inl).frz (fun a z => avB rs (f1 a z)), fun a z => (rs.go s1).mutAv z.all, ho, fun v H' F s r n f => k v H' F (s1.trans s) r n fun a z => s1.free (f a z)⟩
  rw [frzs_eq, List.length_map]
  exact hlen τ xs hx
theorem fn_none {P : Program} {w : World} {mg : Str → Option Value} {base : Heap} {k : Nat} {f : Addr} {fd : FuncData} {ps : List Str} : FnOk P w K mg base CX0 k f fd ps (spF K ps.length fun _ => none) :=
  ⟨fun vs H Q E ⟨os, B, o, h1, h2, _⟩ => by rw [← h2.len, h1], fun A outer s H args us vs Q E hr he hb hv ⟨os, B, o, h1, h2, h3, h4, h5⟩ => by cases h4⟩

/-! ### what changes the slots -/
theorem flat_set {Fs : List (List Addr)} {i : Nat} {a : Addr} {F : List Addr} (h : a ∈ (Fs.set i F).flatten) : a ∈ F ∨ ∃ (j : Nat) (G : List Addr), j ≠ i ∧ Fs[j]? = some G ∧ a ∈ G := by
  obtain ⟨j, G, e, z⟩ := flat_mem h
  by_cases hj : j = i
  · subst hj
    by_cases hl : j < Fs.length
    · rw [List.getElem?_set_self hl] at e
      cases e
      exact .inl z
    · rw [List.getElem?_eq_none (by rw [List.length_set]; omega)] at e
      cases e
  · rw [List.getElem?_set_ne (fun q => hj q.symm)] at e
    exact .inr ⟨j, G, hj, e, z⟩
theorem set_nodup : ∀ {Fs : List (List Addr)} {i : Nat} {F : List Addr}, Fs.flatten.Nodup → F.Nodup → (∀ a ∈ F, a ∉ Fs.flatten) → (Fs.set i F).flatten.Nodup
  | [], i, F, h, _, _ => by simpa using h
  | G :: Fs, 0, F, h, hF, d => by
    show (F :: Fs).flatten.Nodup
    rw [List.flatten_cons, List.nodup_append] at h ⊢
    exact ⟨hF, h.2.1, fun a z b z' e => d a z (by rw [List.flatten_cons]; exact List.mem_append_right _ (e ▸ z'))⟩
  | G :: Fs, i + 1, F, h, hF, d => by
    show (G :: Fs.set i F).flatten.Nodup
    rw [List.flatten_cons, List.nodup_append] at h ⊢
    refine ⟨h.1, set_nodup h.2.1 hF (fun a z q => d a z (by rw [List.flatten_cons]; exact List.mem_append_right _ q)), fun a z b z' e => ?_⟩
    subst e
    rcases flat_set z' with z' | ⟨j, G', _, e, z'⟩
    · exact d a z' (by rw [List.flatten_cons]; exact List.mem_append_left _ z)
    · exact h.2.2 a z a (mem_flat e z') rfl
theorem set_sub : ∀ {Fs : List (List Addr)} {i : Nat}, (Fs.set i []).flatten.Nodup ∨ ¬ Fs.flatten.Nodup
  | Fs, i => by
    by_cases h : Fs.flatten.Nodup
    · exact .inl (set_nodup h List.nodup_nil fun a z => nomatch z)
    · exact .inr h
variable {H0 H H1 H' : Hp} {B0 : Addr → Prop} {σ : St} {τ : Sl} {Fs : List (List Addr)}
/-- a value goes into slot i -/
theorem RS.set {i : Nat} {o : O} {v : V} {F : List Addr} (rs : RS K H0 B0 H σ τ Fs) (s : Same H H1) (r : Rp K H1 (Bor (fun a => B0 a ∨ a ∈ Fs.flatten) F) o v F) (n : F.Nodup) (f : ∀ a ∈ F, H a = none) :
    RS K H0 B0 H1 (σ.set i (some v)) (τ.set i (some o)) (Fs.set i F) := by
  have r1 := rs.go s
  have dF : ∀ a ∈ F, a ∉ Fs.flatten := fun a z q => mut_some (rs.mutF q) (f a z)
  have inB : ∀ a, B0 a ∨ a ∈ (Fs.set i F).flatten → Bor (fun a => B0 a ∨ a ∈ Fs.flatten) F a := fun a z => by
    rcases z with z | z
    · exact .inl (.inl z)
    · rcases flat_set z with z | ⟨j, G, _, e, z⟩
      · exact .inr z
      · exact .inl (.inr (mem_flat e z))
  refine ⟨r1.same, r1.old, fun a z q => ?_, by rw [List.length_set, List.length_set]; exact r1.len, by rw [List.length_set, List.length_set]; exact r1.lenσ, set_nodup r1.nodup n dF, fun a z => ?_, fun j o' h => ?_, fun j h => ?_⟩
  · rcases flat_set z with z | ⟨j, G, _, e, z⟩
    · exact mut_some (rs.old a q) (f a z)
    · exact r1.sep a (mem_flat e z) q
  · rcases flat_set z with z | ⟨j, G, _, e, z⟩
    · exact rs.same.free (f a z)
    · exact r1.fresh a (mem_flat e z)
  · by_cases hj : i = j
    · subst hj
      have hl : i < τ.length := by
        have := (List.getElem?_eq_some_iff.mp h).1
        rwa [List.length_set] at this
      rw [List.getElem?_set_self hl] at h
      cases h
      exact ⟨v, F, List.getElem?_set_self (by rw [rs.lenσ]; exact hl), List.getElem?_set_self (by rw [rs.len]; exact hl), r.mono inB⟩
    · rw [List.getElem?_set_ne hj] at h
      obtain ⟨v', F', a, b, c⟩ := rs.slot j o' h
      refine ⟨v', F', by rw [List.getElem?_set_ne hj]; exact a, by rw [List.getElem?_set_ne hj]; exact b, Rp.same s (c.avoid fun x ne nx z => ?_)⟩
      rcases inB x z with z | z
      · exact nx z
      · exact ne (f x z)
  · by_cases hj : i = j
    · subst hj
      by_cases hl : i < τ.length
      · rw [List.getElem?_set_self hl] at h; cases h
      · rw [List.getElem?_eq_none (by rw [List.length_set]; omega)] at h; cases h
    · rw [List.getElem?_set_ne hj] at h
      rw [List.getElem?_set_ne hj]
      exact r1.nil j h
theorem RS.set_step {i : Nat} {F : List Addr} (rs : RS K H0 B0 H σ τ Fs) (s : Same H H1) (f : ∀ a ∈ F, H a = none) : Step Fs (Fs.set i F) H H1 :=
  ⟨Ext.of s, fun a z => by
    rcases flat_set z with z | ⟨j, G, _, e, z⟩
    · exact .inr (f a z)
    · exact .inl (mem_flat e z)⟩
/-- slot i is no longer held alone -/
theorem RS.frz1 (rs : RS K H0 B0 H σ τ Fs) (i : Nat) : RS K H0 B0 H σ (Dv.frz1 i τ) (Fs.set i []) := by
  unfold Dv.frz1
  cases q : τ[i]? with
  | none =>
    have h1 : τ.length ≤ i := List.getElem?_eq_none_iff.mp q
    rw [List.set_eq_of_length_le (by rw [rs.len]; exact h1)]
    exact rs
  | some s =>
    cases s with
    | none =>
      have h1 := rs.nil i q
      have e1 : τ.set i (frzSlot none) = τ := by
        apply List.ext_getElem?
        intro j
        by_cases hj : i = j
        · subst hj
          rw [List.getElem?_set_self (List.getElem?_eq_some_iff.mp q).1, q]
          rfl
        · rw [List.getElem?_set_ne hj]
      have e2 : Fs.set i [] = Fs := by
        apply List.ext_getElem?
        intro j
        by_cases hj : i = j
        · subst hj
          rw [List.getElem?_set_self (List.getElem?_eq_some_iff.mp h1).1, h1]
        · rw [List.getElem?_set_ne hj]
      show RS K H0 B0 H σ (τ.set i (frzSlot none)) (Fs.set i [])
      rw [e1, e2]
      exact rs
    | some o =>
      obtain ⟨v, h1, h2⟩ := rs.view q
      have e : σ.set i (some v) = σ := by
        apply List.ext_getElem?
        intro j
        by_cases hj : i = j
        · subst hj
          rw [List.getElem?_set_self (List.getElem?_eq_some_iff.mp h1).1, h1]
        · rw [List.getElem?_set_ne hj]
      -- the view avoids all but its own; then the rest
      have inB : ∀ a, B0 a ∨ a ∈ (Fs.set i []).flatten → Av B0 [i] Fs a := fun a z => by
        rcases z with z | z
        · exact .inl z
        · rcases flat_set z with z | ⟨j, G, hj, e, z⟩
          · cases z
          · exact .inr ⟨j, G, fun q => hj (List.mem_singleton.mp q), e, z⟩
      refine ⟨rs.same, rs.old, fun a z => ?_, by rw [List.length_set, List.length_set]; exact rs.len, by rw [List.length_set]; exact rs.lenσ, set_nodup rs.nodup List.nodup_nil (fun a z => nomatch z), fun a z => ?_, fun j o' h => ?_, fun j h => ?_⟩
      · rcases flat_set z with z | ⟨j, G, _, e, z⟩
        · cases z
        · exact rs.sep a (mem_flat e z)
      · rcases flat_set z with z | ⟨j, G, _, e, z⟩
        · cases z
        · exact rs.fresh a (mem_flat e z)
      · by_cases hj : i = j
        · subst hj
          have hl : i < τ.length := (List.getElem?_eq_some_iff.mp q).1
          rw [List.getElem?_set_self hl] at h
          have h : some (Dv.frz o) = some o' := Option.some.inj h
          cases h
          exact ⟨v, [], h1, List.getElem?_set_self (by rw [rs.len]; exact hl), h2.mono inB⟩
        · rw [List.getElem?_set_ne hj] at h
          obtain ⟨v', F', a, b, c⟩ := rs.slot j o' h
          refine ⟨v', F', a, by rw [List.getElem?_set_ne hj]; exact b, c.mono fun x z => (inB x z).all⟩
      · by_cases hj : i = j
        · subst hj
          rw [List.getElem?_set_self (List.getElem?_eq_some_iff.mp q).1] at h
          cases h
        · rw [List.getElem?_set_ne hj] at h
          rw [List.getElem?_set_ne hj]
          exact rs.nil j h
def zeroAt : List Nat → List (List Addr) → List (List Addr)
  | [], Fs => Fs
  | i :: is, Fs => zeroAt is (Fs.set i [])
theorem RS.frzAt : ∀ (is : List Nat) {τ : Sl} {Fs : List (List Addr)}, RS K H0 B0 H σ τ Fs → RS K H0 B0 H σ (Dv.frzAt is τ) (zeroAt is Fs)
  | [], _, _, rs => rs
  | i :: is, _, _, rs => RS.frzAt is (rs.frz1 i)
theorem zero_av : ∀ (is : List Nat) {Fs : List (List Addr)} {a : Addr}, a ∈ (zeroAt is Fs).flatten → ∃ (j : Nat) (G : List Addr), j ∉ is ∧ Fs[j]? = some G ∧ a ∈ G
  | [], Fs, a, h => by
    obtain ⟨j, G, e, z⟩ := flat_mem h
    exact ⟨j, G, (fun q => nomatch q), e, z⟩
  | i :: is, Fs, a, h => by
    obtain ⟨j, G, h1, e, z⟩ := zero_av is h
    by_cases hj : i = j
    · subst hj
      by_cases hl : i < Fs.length
      · rw [List.getElem?_set_self hl] at e; cases e; cases z
      · rw [List.getElem?_eq_none (by rw [List.length_set]; omega)] at e; cases e
    · rw [List.getElem?_set_ne hj] at e
      exact ⟨j, G, fun q => by rcases List.mem_cons.mp q with q | q; exact hj q.symm; exact h1 q, e, z⟩
theorem zero_step {is : List Nat} {H : Hp} {Fs : List (List Addr)} : Step Fs (zeroAt is Fs) H H := ⟨fun _ _ _ e => e, fun a z => let ⟨j, G, _, e, z⟩ := zero_av is z; .inl (mem_flat e z)⟩
/-- a read value goes into slot i -/
theorem RS.put {i : Nat} {o : O} {v : V} {F : List Addr} (rs : RS K H0 B0 H σ τ Fs) (s : Same H H1) (r : Rp K H1 (Bor (Av B0 ns Fs) F) o v F) (n : F.Nodup) (f : ∀ a ∈ F, H a = none) :
    ∃ Fs', RS K H0 B0 H1 (σ.set i (some v)) (Dv.put ns i o τ) Fs' ∧ Step Fs Fs' H H1 := by
  unfold Dv.put
  by_cases hc : clean o = true
  · rw [if_pos hc]
    exact ⟨_, rs.set s (r.clean hc) n f, rs.set_step s f⟩
  · rw [if_neg hc]
    have rz := rs.frzAt ns
    refine ⟨_, rz.set s (r.mono fun a z => ?_) n f, (zero_step (H := H)).trans (rz.set_step s f) fun x z => rs.mutF z⟩
    rcases z with (z | z) | z
    · exact .inl (.inl z)
    · obtain ⟨j, G, h1, e, z⟩ := zero_av ns z
      exact .inl (.inr ⟨j, G, h1, e, z⟩)
    · exact .inr z

/-! ### statements -/
variable {st : Stmt} {rest : List Stmt} {sa sb : SS}
theorem dss_nil : DSs X [] sN := by
  refine pss_nil.byD fun D σ H h => ?_
  obtain ⟨H0, B0, τ, Fs, r, rs, hr, k⟩ := h
  cases hr
  exact k σ H Fs rs Step.refl
theorem seq_imp {t u : SS} {D : Ends} {σ : St} {H : Hp} (h : tS X.K (sSeq t u) D σ H) : tS X.K t { D with nx := tS X.K u D } σ H := by
  obtain ⟨H0, B0, τ, Fs, r, rs, hr, k⟩ := h
  unfold sSeq at hr
  cases q : t τ with
  | none => rw [q] at hr; cases hr
  | some p =>
    rw [q] at hr
    refine ⟨H0, B0, τ, Fs, p, rs, q, ?_⟩
    cases p with
    | nx τ' =>
      refine fun σ' H' Fs' rs' st' => ⟨H0, B0, τ', Fs', r, rs', hr, ?_⟩
      cases r with
      | nx τ2 => exact fun σ2 H2 Fs2 rs2 st2 => k σ2 H2 Fs2 rs2 (st'.trans st2 fun x z => rs.mutF z)
      | bk τ2 => exact fun σ2 H2 Fs2 rs2 st2 => k σ2 H2 Fs2 rs2 (st'.trans st2 fun x z => rs.mutF z)
      | ct τ2 => exact fun σ2 H2 Fs2 rs2 st2 => k σ2 H2 Fs2 rs2 (st'.trans st2 fun x z => rs.mutF z)
      | rt o => exact k
    | rt o => cases hr; exact k
    | bk τ' => cases hr; exact k
    | ct τ' => cases hr; exact k
theorem dss_cons (h1 : DS X st sa) (h2 : DSs X rest sb) : DSs X (st :: rest) (sSeq sa sb) := (pss_cons h1 h2).byD fun D σ H h => seq_imp h
theorem dss_one (h : DS X st sa) : DSs X [st] sa := pss_one h
theorem ds_pass : DS X (.Pass pos) sN := by
  refine ps_pass.byD fun D σ H h => ?_
  obtain ⟨H0, B0, τ, Fs, r, rs, hr, k⟩ := h
  cases hr
  exact k σ H Fs rs Step.refl
theorem ds_break : DS X (.Break pos) sBk := by
  refine ps_break.byD fun D σ H h => ?_
  obtain ⟨H0, B0, τ, Fs, r, rs, hr, k⟩ := h
  cases hr
  exact k σ H Fs rs Step.refl
theorem ds_continue : DS X (.Continue pos) sCt := by
  refine ps_continue.byD fun D σ H h => ?_
  obtain ⟨H0, B0, τ, Fs, r, rs, hr, k⟩ := h
  cases hr
  exact k σ H Fs rs Step.refl
theorem ds_set {i : Nat} {x : Str} {p' : Pos} (hN : X.N.Nodup) (he : DE X ns e f) (hi : X.N[i]? = some x := by rfl) (hx : Loc X.env.scope x := by first | exact Or.inl rfl | exact Or.inr rfl) (hs : swapsWith e (some (.Name x p')) pos.line X.env = pure false := by rfl) (hf : X.fn x = true ∨ X.env.scope.names.lookup x = some .local := by first | exact .inl rfl | exact .inr rfl) :
    DS X (.Assign [.Name x p'] e pos) (sSet ns i f) := by
  refine (ps_set hN hi hx he hs hf).byD fun D σ H h => ?_
  obtain ⟨H0, B0, τ, Fs, r, rs, hr, k⟩ := h
  obtain ⟨o, ho, hr⟩ := bind_some hr
  cases hr
  refine ⟨H0, B0, τ, Fs, o, rs, ho, fun v H1 F s1 r1 n1 f1 => ?_⟩
  obtain ⟨Fs', rs', st'⟩ := rs.put (i := i) s1 r1 n1 f1
  exact k _ H1 Fs' rs' st'
theorem ds_ret (he : DE X ns e f) : DS X (.Return (some e) pos) (sRet f) := by
  refine (ps_ret he).byD fun D σ H h => ?_
  obtain ⟨H0, B0, τ, Fs, r, rs, hr, k⟩ := h
  obtain ⟨o, ho, hr⟩ := bind_some hr
  cases hr
  exact ⟨H0, B0, τ, Fs, o, rs, ho, fun v H1 F s1 r1 n1 f1 => k v H1 F (rs.same.trans s1) (r1.mono fun a z => z.imp .inl id) n1 fun a z => rs.same.free (f1 a z)⟩
theorem ds_retN : DS X (.Return none pos) (sRet (xC .non)) := by
  refine ps_retN.byD fun D σ H h => ?_
  obtain ⟨H0, B0, τ, Fs, r, rs, hr, k⟩ := h
  cases hr
  exact k .non H [] rs.same ⟨rfl, rfl⟩ List.nodup_nil fun a z => nomatch z
/-- return x: with all that it holds alone -/
theorem ds_retV (i : Nat) {x : Str} {p : Pos} (hN : X.N[i]? = some x := by rfl) (hv : Vis X.env.scope x := by first | exact Or.inl rfl | exact Or.inr (Or.inl rfl) | exact Or.inr (Or.inr rfl)) (hd : (x == ("__debug__" : Str)) = false := by decide)
    (hcd : (x == ("__classdict__" : Str)) = false := by decide) : DS X (.Return (some (.Name x p)) pos) (sRetV i) := by
  refine (ps_ret (pe_var hN hv hd hcd)).byD fun D σ H h => ?_
  obtain ⟨H0, B0, τ, Fs, r, rs, hr, k⟩ := h
  obtain ⟨o, ho, hr⟩ := bind_some hr
  cases hr
  unfold get at ho
  cases q : τ[i]? with
  | none => rw [q] at ho; cases ho
  | some s =>
    cases s with
    | none => rw [q] at ho; cases ho
    | some o' =>
      rw [q] at ho
      cases ho
      obtain ⟨v, F, h1, h2, h3⟩ := rs.slot i o q
      exact ⟨v, h1, k v H F rs.same (h3.mono fun a z => z.imp id fun z => mem_flat h2 z) (nodup_part rs.nodup h2) fun a z => rs.fresh a (mem_flat h2 z)⟩
theorem ds_if {t : ST} {p q : List Stmt} (hc : DT X c t) (ha : DSs X p sa) (hb : DSs X q sb) : DS X (.If c p q pos) (sIf t sa sb) := by
  refine (ps_if hc ha hb).byD fun D σ H h => ?_
  obtain ⟨H0, B0, τ, Fs, r, rs, hr, k⟩ := h
  obtain ⟨x, hx, hr⟩ := bind_some hr
  refine ⟨H0, B0, τ, Fs, x, rs, hx, fun H1 s1 => ?_⟩
  have go : ∀ {u : SS}, u τ = some r → tS X.K u D σ H1 := fun {u} hu => ⟨H0, B0, τ, Fs, r, rs.go s1, hu, by
    have st1 : Step Fs Fs H H1 := ⟨Ext.of s1, fun a z => .inl z⟩
    cases r with
    | nx τ2 => exact fun σ2 H2 Fs2 rs2 st2 => k σ2 H2 Fs2 rs2 (st1.trans st2 fun x z => rs.mutF z)
    | bk τ2 => exact fun σ2 H2 Fs2 rs2 st2 => k σ2 H2 Fs2 rs2 (st1.trans st2 fun x z => rs.mutF z)
    | ct τ2 => exact fun σ2 H2 Fs2 rs2 st2 => k σ2 H2 Fs2 rs2 (st1.trans st2 fun x z => rs.mutF z)
    | rt o => exact k⟩
  cases x with
  | true => exact iteT (go hr)
  | false => exact iteF (go hr)
theorem ds_while {t : ST} {body : List Stmt} (hp : PassesOwn (model X.prog X.w) X.A X.env X.xe) (hc : DT X c t) (hb : DSs X body sb) : DS X (.While c body [] pos) (sWhl t sb) := by
  refine (ps_while hp hc hb).byD fun D σ H h => ?_
  obtain ⟨H0, B0, τ, Fs, r, rs, hr, k⟩ := h
  obtain ⟨n, hn⟩ := of_sWhl hr
  refine ⟨fun m σ' H' => ∃ τ' Fs', RS X.K H0 B0 H' σ' τ' Fs' ∧ whlN t sb m τ' = some r ∧ Step Fs Fs' H H', ⟨n, τ, Fs, rs, hn, Step.refl⟩, ?_⟩
  rintro m σ1 H1 ⟨τ1, Fs1, rs1, h1, st1⟩
  cases m with
  | zero => cases h1
  | succ m =>
    unfold whlN at h1
    cases hx : t τ1 with
    | none => rw [hx] at h1; cases h1
    | some x =>
      rw [hx] at h1
      refine ⟨H0, B0, τ1, Fs1, x, rs1, hx, fun H2 s2 => ?_⟩
      have st2 : Step Fs Fs1 H H2 := st1.trans ⟨Ext.of s2, fun a z => .inl z⟩ fun x z => rs.mutF z
      cases x with
      | false =>
        cases h1
        exact iteF (k σ1 H2 Fs1 (rs1.go s2) st2)
      | true =>
        simp only at h1
        refine iteT ⟨fun σ' H' => ∃ τ' Fs', RS X.K H0 B0 H' σ' τ' Fs' ∧ whlN t sb m τ' = some r ∧ Step Fs Fs' H H', fun σ' H' q => ⟨m, Nat.lt_succ_self _, q⟩, ?_⟩
        cases hy : sb τ1 with
        | none => rw [hy] at h1; cases h1
        | some y =>
          rw [hy] at h1
          refine ⟨H0, B0, τ1, Fs1, y, rs1.go s2, hy, ?_⟩
          cases y with
          | nx τ2 => exact fun σ3 H3 Fs3 rs3 st3 => ⟨τ2, Fs3, rs3, h1, st2.trans st3 fun x z => rs.mutF z⟩
          | ct τ2 => exact fun σ3 H3 Fs3 rs3 st3 => ⟨τ2, Fs3, rs3, h1, st2.trans st3 fun x z => rs.mutF z⟩
          | bk τ2 => cases h1; exact fun σ3 H3 Fs3 rs3 st3 => k σ3 H3 Fs3 rs3 (st2.trans st3 fun x z => rs.mutF z)
          | rt o => cases h1; exact k
end
end Dv

end
section
set_option Elab.async false
set_option linter.all false
set_option maxRecDepth 100000
/-! Dn: what changes an object, targets, walks, for, comprehensions, the def's rule. -/
namespace Dv
open PySem PySem.Spec L2
open PyProof.Rows hiding St
section
variable {K : PySem.W.Frag} {X : Cx} {a b c e : Expr} {es : List Expr} {na nb nc ns ms : List Nat} {fa fb fc f g : SE} {fs : SEs} {pos : Pos}
variable {H0 H H1 H' : Hp} {B0 : Addr → Prop} {σ : St} {τ : Sl} {Fs : List (List Addr)}
/-- the object at p, held alone by slot i, is changed -/
theorem RS.upd {i : Nat} {p : Addr} {F F2 : List Addr} {o2 : O} {u : HO} {v : V} (rs : RS K H0 B0 H σ τ Fs) (hF : Fs[i]? = some F) (hp : p ∈ F) (hv : σ[i]? = some (some v)) (s : Same H H1)
    (r : Rp K (upd H1 p u) (Bor (fun a => B0 a ∨ a ∈ Fs.flatten) F2) o2 v F2) (n : F2.Nodup) (f : ∀ a ∈ F2, a ∈ F ∨ H a = none) :
    RS K H0 B0 (L2.upd H1 p u) σ (τ.set i (some o2)) (Fs.set i F2) ∧ Step Fs (Fs.set i F2) H (L2.upd H1 p u) := by
  have r1 := rs.go s
  have pF : p ∈ Fs.flatten := mem_flat hF hp
  have mp : Mut (H1 p) := r1.mutF pF
  have ex : Ext (fun a => a = p) H1 (L2.upd H1 p u) := fun a o n e => by rw [upd_ne n]; exact e
  have mB : MutB (fun a => a = p) H1 := fun a z => by rw [z]; exact mp
  have inB : ∀ a, B0 a ∨ a ∈ (Fs.set i F2).flatten → Bor (fun a => B0 a ∨ a ∈ Fs.flatten) F2 a := fun a z => by
    rcases z with z | z
    · exact .inl (.inl z)
    · rcases flat_set z with z | ⟨j, G, _, e, z⟩
      · exact .inr z
      · exact .inl (.inr (mem_flat e z))
  have hil : i < Fs.length := (List.getElem?_eq_some_iff.mp hF).1
  refine ⟨⟨fun x o e => ?_, fun x z => ?_, fun x z q => ?_, by rw [List.length_set, List.length_set]; exact rs.len, by rw [List.length_set]; exact rs.lenσ, ?_, fun x z => ?_, fun j o' h => ?_, fun j h => ?_⟩, ⟨fun x o n e => ?_, fun x z => ?_⟩⟩
  · rw [upd_ne (fun (z : x = p) => by rw [z, rs.fresh p pF] at e; cases e)]
    exact r1.same x o e
  · rw [upd_ne (fun (q : x = p) => rs.sep p pF (q ▸ z))]
    exact r1.old x z
  · rcases flat_set z with z | ⟨j, G, _, e, z⟩
    · rcases f x z with z | z
      · exact rs.sep x (mem_flat hF z) q
      · exact mut_some (rs.old x q) z
    · exact rs.sep x (mem_flat e z) q
  · -- no address twice
    have aux : ∀ {Fs : List (List Addr)} {i : Nat} {F : List Addr}, Fs.flatten.Nodup → Fs[i]? = some F → F2.Nodup → (∀ a ∈ F2, a ∈ F ∨ a ∉ Fs.flatten) → (Fs.set i F2).flatten.Nodup := by
      intro Fs i F nd hF n f
      have h0 : (Fs.set i []).flatten.Nodup := set_nodup nd List.nodup_nil fun a z => nomatch z
      have e : Fs.set i F2 = (Fs.set i []).set i F2 := by rw [List.set_set]
      rw [e]
      refine set_nodup h0 n fun a z q => ?_
      rcases flat_set q with q | ⟨j, G, hj, e, q⟩
      · cases q
      · rcases f a z with z | z
        · exact hj (nodup_one nd e hF q z)
        · exact z (mem_flat e q)
    exact aux rs.nodup hF n fun a z => (f a z).imp id fun z q => mut_some (rs.mutF q) z
  · rcases flat_set z with z | ⟨j, G, _, e, z⟩
    · rcases f x z with z | z
      · exact rs.fresh x (mem_flat hF z)
      · exact rs.same.free z
    · exact rs.fresh x (mem_flat e z)
  · by_cases hj : i = j
    · subst hj
      have hl : i < τ.length := by rw [← rs.len]; exact hil
      rw [List.getElem?_set_self hl] at h
      cases h
      exact ⟨v, F2, hv, List.getElem?_set_self hil, r.mono inB⟩
    · rw [List.getElem?_set_ne hj] at h
      obtain ⟨v', F', a, b, c⟩ := r1.slot j o' h
      refine ⟨v', F', a, by rw [List.getElem?_set_ne hj]; exact b, ?_⟩
      have c2 := Rp.ext ex mB (fun a z => .inr (by rw [z]; exact pF)) (fun a z o q => by rw [upd_ne (fun (w : a = p) => hj (nodup_one rs.nodup hF b hp (w ▸ z)))]; exact q) c
      -- at H: what slot j bears is older than F2's new ones
      obtain ⟨v'', F'', a', b', c'⟩ := rs.slot j o' h
      rw [a] at a'; cases a'
      rw [b] at b'; cases b'
      have c3 : Rp K H (fun a => B0 a ∨ a ∈ (Fs.set i F2).flatten) o' v' F' := c'.avoid fun x ne nx z => by
        rcases inB x z with z | z
        · exact nx z
        · rcases f x z with z | z
          · exact nx (.inr (mem_flat hF z))
          · exact ne z
      by_cases hpin : p ∈ (Fs.set i F2).flatten
      · exact Rp.ext ex mB (fun a z => .inr (by rw [z]; exact hpin)) (fun a z o q => by rw [upd_ne (fun (w : a = p) => hj (nodup_one rs.nodup hF b hp (w ▸ z)))]; exact q) (c3.same s)
      · have c4 : Rp K H (fun a => (B0 a ∨ a ∈ (Fs.set i F2).flatten) ∨ a = p) o' v' F' := c'.avoid fun x ne nx z => by
          rcases z with z | z
          · rcases inB x z with z | z
            · exact nx z
            · rcases f x z with z | z
              · exact nx (.inr (mem_flat hF z))
              · exact ne z
          · exact nx (.inr (by rw [z]; exact pF))
        exact (Rp.ext ex mB (fun a z => .inr z) (fun a z o q => by rw [upd_ne (fun (w : a = p) => hj (nodup_one rs.nodup hF b hp (w ▸ z)))]; exact q) (c4.same s)).mono fun a z => .inl z
  · by_cases hj : i = j
    · subst hj
      rw [List.getElem?_set_self (by rw [← rs.len]; exact hil)] at h
      cases h
    · rw [List.getElem?_set_ne hj] at h
      rw [List.getElem?_set_ne hj]
      exact rs.nil j h
  · rw [upd_ne (fun (z : x = p) => n (by rw [z]; exact pF))]
    exact s x o e
  · rcases flat_set z with z | ⟨j, G, _, e, z⟩
    · exact (f x z).imp (fun z => mem_flat hF z) id
    · exact .inl (mem_flat e z)
/-- the list that slot i holds alone -/
theorem RS.lst {i : Nat} {xs : List O} (rs : RS K H0 B0 H σ τ Fs) (h : τ[i]? = some (some (.lst true xs))) :
    ∃ p vs G, σ[i]? = some (some (.ref p)) ∧ Fs[i]? = some (p :: G) ∧ H p = some (.lst vs) ∧ Rps K H (fun a => B0 a ∨ a ∈ Fs.flatten) xs vs G ∧ p ∉ G := by
  obtain ⟨v, F, a, b, c⟩ := rs.slot i _ h
  obtain ⟨p, vs, G, rfl, h2, rfl, h4⟩ := c
  exact ⟨p, vs, G, a, b, h2, h4, (List.nodup_cons.mp (nodup_part rs.nodup b)).1⟩
/-- .. is changed: its items afterwards -/
theorem RS.lupd {i : Nat} {xs xs' : List O} {vs' : List V} {G G' : List Addr} {p : Addr} (rs : RS K H0 B0 H σ τ Fs) (hF : Fs[i]? = some (p :: G)) (hv : σ[i]? = some (some (.ref p))) (s : Same H H1)
    (r : Rps K H1 (Bor (fun a => B0 a ∨ a ∈ Fs.flatten) G') xs' vs' G') (n : (p :: G').Nodup) (f : ∀ a ∈ G', a ∈ G ∨ H a = none) :
    RS K H0 B0 (L2.upd H1 p (.lst vs')) σ (τ.set i (some (.lst true xs'))) (Fs.set i (p :: G')) ∧ Step Fs (Fs.set i (p :: G')) H (L2.upd H1 p (.lst vs')) := by
  have pF : p ∈ Fs.flatten := mem_flat hF List.mem_cons_self
  have mp : Mut (H1 p) := (rs.go s).mutF pF
  refine rs.upd hF List.mem_cons_self hv s ⟨p, vs', G', rfl, upd_same, rfl, ?_⟩ n fun a z => ?_
  · refine Rps.ext (C := fun a => a = p) (fun a o n e => by rw [upd_ne n]; exact e) (fun a z => by rw [z]; exact mp) (fun a z => ?_) (fun a z o q => by rw [upd_ne (fun (w : a = p) => (List.nodup_cons.mp n).1 (w ▸ z))]; exact q) (r.mono fun a z => ?_)
    · rw [z]; exact .inl (.inr pF)
    · rcases z with z | z
      · exact .inl z
      · rcases List.mem_cons.mp z with rfl | z
        · exact .inl (.inr pF)
        · exact .inr z
  · rcases List.mem_cons.mp z with rfl | z
    · exact .inl List.mem_cons_self
    · exact (f a z).imp (List.mem_cons_of_mem _) id
/-- a read value and what it is about to be put into -/
theorem RS.taken {o : O} {v : V} {F : List Addr} (rs : RS K H0 B0 H σ τ Fs) (r : Rp K H1 (Bor (Av B0 ns Fs) F) o v F) :
    ∃ Fs1, RS K H0 B0 H σ (if clean o then τ else Dv.frzAt ns τ) Fs1 ∧ Rp K H1 (Bor (fun a => B0 a ∨ a ∈ Fs1.flatten) F) o v F ∧ Step Fs Fs1 H H := by
  by_cases hc : clean o = true
  · rw [if_pos hc]
    exact ⟨Fs, rs, r.clean hc, Step.refl⟩
  · rw [if_neg hc]
    refine ⟨_, rs.frzAt ns, r.mono fun a z => ?_, zero_step⟩
    rcases z with (z | z) | z
    · exact .inl (.inl z)
    · obtain ⟨j, G, h1, e, z⟩ := zero_av ns z
      exact .inl (.inr ⟨j, G, h1, e, z⟩)
    · exact .inr z
theorem fresh_ne {rs : RS K H0 B0 H σ τ Fs} {i : Nat} {F F1 : List Addr} (hF : Fs[i]? = some F) (f1 : ∀ a ∈ F1, H a = none) {a : Addr} (z : a ∈ F) : a ∉ F1 := fun q => mut_some (rs.mutF (mem_flat hF z)) (f1 a q)
/-- xs.append(e) -/
theorem ds_app (i : Nat) {x : Str} {p pa pp : Pos} (he : DE X ns e f) (hi : X.N[i]? = some x := by rfl) (hv : Vis X.env.scope x := by first | exact Or.inl rfl | exact Or.inr (Or.inl rfl) | exact Or.inr (Or.inr rfl))
    (hd : (x == ("__debug__" : Str)) = false := by decide) (hcd : (x == ("__classdict__" : Str)) = false := by decide)
    (hbase : attributeBase (.Name x p) "append" X.env (eval (.Name x p) X.env) = eval (.Name x p) X.env := by rfl)
    (hfew : ((backTo pp (starEach [e] X.env)).all (fun x => !x.1) && (backToKw pp (keywordEach [] X.env)).all (fun x => x.1.isSome)
      && decide ([e].length + ([] : List Keyword).length + (if ([] : List Keyword).isEmpty then 0 else 1) < 30)) = true := by rfl)
    (hline : (pa.endLine == pp.line) = true := by rfl) (hs : starEach [e] X.env = (false, eval e X.env) :: starEach [] X.env := by rfl) (hpl : (backTo pp (starEach [] X.env)).any (·.1) = false := by rfl)
    (hsw : swapsWith (.Call (.Attribute (.Name x p) "append" pa) [e] [] pp) none pos.line X.env = pure false := by rfl) :
    DS X (.Expr (.Call (.Attribute (.Name x p) "append" pa) [e] [] pp) pos) (sApp ns i f) := by
  refine (ps_expr (pe_bm PySem.F.plainAttrs_list PySem.F.slot_list_append PySem.F.type_list_append mt_append (pe_var hi hv hd hcd) (pa_cons he pa_nil hs) hbase hfew hline hs hpl) hsw).byD fun D σ H h => ?_
  obtain ⟨H0, B0, τ, Fs, r, rs, hr, k⟩ := h
  obtain ⟨o, ho, hr⟩ := bind_some hr
  simp only at hr
  -- the slot is held alone now, and behind the item
  have own : ∀ {τ' : Sl} {r : Fl}, (match τ'[i]? with | some (some (O.lst true xs)) => if xs.length < sLine then some (Fl.nx (τ'.set i (some (.lst true (xs ++ [o]))))) else none | _ => none) = some r → ∃ xs, τ'[i]? = some (some (.lst true xs)) ∧ xs.length < sLine ∧ r = .nx (τ'.set i (some (.lst true (xs ++ [o])))) := fun {τ' r} q => by
    split at q
    · rename_i xs hx
      split at q
      · rename_i hl
        cases q
        exact ⟨xs, hx, hl, rfl⟩
      · cases q
    · cases q
  obtain ⟨xs, hx, hl, rfl⟩ := own hr
  have hτ : ∃ xs0, τ[i]? = some (some (.lst true xs0)) := by
    by_cases hc : clean o = true
    · rw [if_pos hc] at hx; exact ⟨xs, hx⟩
    · rw [if_neg hc] at hx
      have bck : ∀ (is : List Nat) (τ : Sl), (frzAt is τ)[i]? = some (some (.lst true xs)) → ∃ xs0, τ[i]? = some (some (.lst true xs0)) := by
        intro is
        induction is with
        | nil => exact fun τ h => ⟨xs, h⟩
        | cons j is ih =>
          intro τ h
          obtain ⟨xs1, h1⟩ := ih _ h
          unfold frz1 at h1
          split at h1
          · rename_i s hs
            by_cases hj : j = i
            · subst hj
              rw [List.getElem?_set_self (List.getElem?_eq_some_iff.mp hs).1] at h1
              cases s with
              | none => cases h1
              | some o' =>
                have h1 : some (Dv.frz o') = some (O.lst true xs1) := Option.some.inj h1
                cases o' <;> cases h1
            · rw [List.getElem?_set_ne hj] at h1
              exact ⟨xs1, h1⟩
          · exact ⟨xs1, h1⟩
      exact bck ns τ hx
  obtain ⟨xs0, hτ⟩ := hτ
  obtain ⟨p0, vs0, G0, q1, q2, q3, q4, _⟩ := rs.lst hτ
  refine ⟨.ref p0, q1, .inl ⟨rfl, vs0, SqL.of q3⟩, H0, B0, τ, Fs, o, rs, ho, fun v1 H1 F1 s1 r1 n1 f1 => ?_⟩
  obtain ⟨Fs1, rs1, r2, st1⟩ := rs.taken r1
  obtain ⟨p, vs, G, e1, e2, e3, e4, e5⟩ := rs1.lst hx
  rw [q1] at e1
  cases e1
  have nF1 : ∀ a ∈ p0 :: G, a ∉ F1 := fun a z q => mut_some (rs1.mutF (mem_flat e2 z)) (f1 a q)
  have e4' : Rps X.K H1 (Bor (fun a => B0 a ∨ a ∈ Fs1.flatten) (G ++ F1)) xs vs G := Rps.same s1 (e4.avoid fun x ne nx z => by
    rcases z with z | z
    · exact nx z
    · rcases List.mem_append.mp z with z | z
      · exact nx (.inr (mem_flat e2 (List.mem_cons_of_mem _ z)))
      · exact ne (f1 x z))
  have r3 : Rps X.K H1 (Bor (fun a => B0 a ∨ a ∈ Fs1.flatten) (G ++ F1)) [o] [v1] F1 := ⟨v1, [], F1, [], rfl, by rw [List.append_nil], r2.mono fun a z => by
    rcases z with z | z
    · exact .inl z
    · rcases List.mem_append.mp z with z | z
      · exact .inl (.inr (mem_flat e2 (List.mem_cons_of_mem _ z)))
      · exact .inr z, rfl, rfl⟩
  have nd : (p0 :: (G ++ F1)).Nodup := by
    have h0 := nodup_part rs1.nodup e2
    rw [List.nodup_cons] at h0 ⊢
    refine ⟨fun z => ?_, List.nodup_append.mpr ⟨h0.2, n1, fun a z b z' w => nF1 a (List.mem_cons_of_mem _ z) (w ▸ z')⟩⟩
    rcases List.mem_append.mp z with z | z
    · exact h0.1 z
    · exact nF1 p0 List.mem_cons_self z
  obtain ⟨rs2, st2⟩ := rs1.lupd (xs := xs) e2 q1 s1 (e4'.append r3) nd fun a z => (List.mem_append.mp z).imp id (f1 a)
  exact ⟨p0, vs, v1, rfl, rfl, s1 _ _ e3, by rw [← e4.len]; exact hl, k σ _ _ rs2 (st1.trans st2 fun x z => rs.mutF z)⟩
/-- x += e, whole numbers -/
theorem ds_aug {op : Operator} {ti : TIp} {h : O → O → Option O} {i : Nat} {x : Str} {p : Pos} (hN : X.N.Nodup) (ho : PIp X op ti) (hh : ∀ {p q : Int} {o : O}, h (.int p) (.int q) = some o → ∀ (H : Hp) (Q : VK), (∀ z, (∀ (K : PySem.W.Frag) B, Rp K H B o z []) → Q z H) → ti (.int p) (.int q) H Q) (he : DE X ns e f) (hi : X.N[i]? = some x := by rfl)
    (hx : Loc X.env.scope x := by first | exact Or.inl rfl | exact Or.inr rfl) (hf : X.fn x = true ∨ X.env.scope.names.lookup x = some .local := by first | exact .inl rfl | exact .inr rfl) : DS X (.AugAssign (.Name x p) op e pos) (sAugI i h f) := by
  refine (ps_aug hN hi hx he ho hf).byD fun D σ H hh' => ?_
  obtain ⟨H0, B0, τ, Fs, r, rs, hr, k⟩ := hh'
  obtain ⟨x', hx', hr⟩ := bind_some hr
  obtain ⟨y, hy, hr⟩ := bind_some hr
  cases x' with
  | int p1 => cases y with
    | int q1 =>
      obtain ⟨o, ho', hr⟩ := bind_some hr
      cases hr
      unfold get at hx'
      cases q : τ[i]? with
      | none => rw [q] at hx'; cases hx'
      | some s => cases s with
        | none => rw [q] at hx'; cases hx'
        | some o' =>
          rw [q] at hx'
          cases hx'
          obtain ⟨v, F, e1, e2, e3⟩ := rs.slot i _ q
          obtain ⟨rfl, _⟩ := e3
          refine ⟨_, e1, H0, B0, τ, Fs, _, rs, hy, fun v1 H1 F1 s1 r1 n1 f1 => ?_⟩
          obtain ⟨rfl, _⟩ := r1
          exact hh ho' H1 _ fun z rz => k _ H1 _ (rs.set (F := []) s1 ((rz _ _).frz (F := []) fun a z => nomatch z) List.nodup_nil fun a z => nomatch z) (rs.set_step (F := []) s1 fun a z => nomatch z)
    | _ => cases hr
  | _ => cases hr
end
end Dv

end
section
set_option Elab.async false
set_option linter.all false
set_option maxRecDepth 100000
/-! Dzp: zip of a list with a tuple. -/
namespace Dv
open PySem PySem.Spec L2
open PyProof.Rows hiding St
/-- the list at a and the tuple at b as they stand at each turn -/
def ItzM (K : PySem.W.Frag) (a b : Addr) : It where
  go := fun i H => ∃ xs ys : List V, ∃ x y : V, (SqL K H a xs ∧ SqT K H b ys) ∧ xs[i]? = some x ∧ ys[i]? = some y
  yld := fun i H v H' => ∃ (p : Addr) (x y : V), v = .ref p ∧ H p = none ∧ H' = upd H p (.tup [x, y]) ∧ (∀ l, SqL K H a l → l[i]? = some x) ∧ ∀ l, SqT K H b l → l[i]? = some y
  stop := fun i H => ∃ xs ys : List V, (SqL K H a xs ∧ SqT K H b ys) ∧ i ≤ xs.length ∧ i ≤ ys.length ∧ (i = xs.length ∨ i = ys.length)
/-- what the zip's own cells are at turn i -/
structure ZState (a b z TI TO i1 i2 : Addr) (i : Nat) (h : Heap) : Prop where
  zp : IsZip h z TI TO .none
  ti : IsPair h TI (.ref i1) (.ref i2)
  to : ∃ x y, IsPair h TO x y
  it1 : h.IsListIter i1 a i
  it2 : h.IsTupleIter i2 b i
theorem five {c z TI TO i1 i2 : Addr} (h : c ∈ [z, TI, TO, i1, i2]) : c = z ∨ c = TI ∨ c = TO ∨ c = i1 ∨ c = i2 := by simpa using h
theorem five_live {a b z TI TO i1 i2 : Addr} {i : Nat} {h : Heap} (S : ZState a b z TI TO i1 i2 i h) {c : Addr} (q : c ∈ [z, TI, TO, i1, i2]) : ∃ o, h.get? c = some o ∧ ∀ v, o.data ≠ .cell v := by
  obtain ⟨x, y, ho⟩ := S.to
  obtain ⟨p, hp, _, dp⟩ := S.it1
  obtain ⟨r, hr, _, dr⟩ := S.it2
  rcases five q with rfl | rfl | rfl | rfl | rfl
  · exact ⟨_, S.zp, fun v e => nomatch e⟩
  · exact ⟨_, S.ti, fun v e => nomatch e⟩
  · exact ⟨_, ho, fun v e => nomatch e⟩
  · exact ⟨p, hp, fun v e => by rw [dp] at e; cases e⟩
  · exact ⟨r, hr, fun v e => by rw [dr] at e; cases e⟩
theorem sep_of {a b z TI TO i1 i2 : Addr} (D : ZipApart z TI TO i1 i2 a b) : ZipSep2 z TI TO i1 i2 [i1, a] [i2, b] where
  TIz := D.TIz
  TOz := D.TOz
  TITO := D.TITO
  TIi1 := D.TIi1
  mem1 := by simp
  zf1 := by simp [D.i1z.symm, D.l1z.symm]
  Tf1 := by simp [D.TOi1, D.l1TO.symm]
  TIi2 := D.TIi2
  mem2 := by simp
  zf2 := by simp [D.i2z.symm, D.l2z.symm]
  Tf2 := by simp [D.TOi2, D.l2TO.symm]
  sep1_2 := by simp [D.i12, D.l2i1.symm]
  sep2_1 := by simp [D.i12.symm, D.l1i2.symm]
theorem turnM {P : Program} {w : World} {K : PySem.W.Frag} {elts : List Expr} {kk : Nat} {tpos : Pos} {a b z TI TO i1 i2 : Addr} (D : ZipApart z TI TO i1 i2 a b) :
    Turn P w K (.Tuple elts kk tpos) (ItzM K a b) [z, TI, TO, i1, i2] z (ZState a b z TI TO i1 i2) where
  mem := List.mem_cons_self
  obj := fun i h S c q => five_live S q
  keep := fun i h h' S k => by
    obtain ⟨x, y, ho⟩ := S.to
    exact ⟨k _ (by simp) _ S.zp, k _ (by simp) _ S.ti, ⟨x, y, k _ (by simp) _ ho⟩, S.it1.at (k _ (by simp)), S.it2.at (k _ (by simp))⟩
  item := by
    intro X eP eW eK calm i pins s σ H E I free S go
    subst eP eW eK
    obtain ⟨xs, ys, x, y, ⟨sx, sy⟩, gx, gy⟩ := go
    obtain ⟨us, vu, pu, _⟩ := I.list sx
    obtain ⟨ws, vw, pw, _⟩ := I.tuple sy
    obtain ⟨u, hu, ru⟩ := vu.get gx
    obtain ⟨t, ht, rt⟩ := vw.get gy
    obtain ⟨x0, y0, ho⟩ := S.to
    have hd : X.A.in1.handled = none := I.ok.hd calm
    have lu : i < us.toArray.size := by have := (List.getElem?_eq_some_iff.mp hu).1; simpa using this
    have lt : i < ws.toArray.size := by have := (List.getElem?_eq_some_iff.mp ht).1; simpa using this
    have zl := Heap.lt_size S.zp
    refine wpAny_pyNext_zipD2_item (sep_of D) (Draws.list hd i1 a D.l1i1 us.toArray) (Draws.tuple hd i2 b D.l2i2 ws.toArray) S.zp S.ti ho ⟨S.it1, pu.isList⟩ ⟨S.it2, pw⟩ lu lt fun u' t' h' tk eu et z1 o1 s1 s2 nw sz keep => ?_
    have e1 : u' = u := by simp [hu] at eu; exact eu.symm
    have e2 : t' = t := by simp [ht] at et; exact et.symm
    subst e1 e2
    refine ⟨_, rfl, wpAny_letOwnedTupleGo_zip (s := { s with heap := h', toks := tk }) z1 fun h2 z2 sb => ?_⟩
    have nw2 : h2.get? s.heap.objs.size = some { cls := .type "tuple", data := .seq #[u', t'] } := (sb.2 _ (Nat.ne_of_gt zl)).trans nw
    have I2 : Inv X pins σ (upd H s.heap.objs.size (.tup [x, y])) { s with heap := h2, toks := tk } :=
      I.turnedNew (t' := tk) (ch := [z, TI, TO, i1, i2]) (fun c o nc q => by
        simp only [List.mem_cons, List.not_mem_nil, or_false, not_or] at nc
        exact (sb.2 c nc.1).trans (keep c o nc.1 nc.2.2.1 nc.2.2.2.1 nc.2.2.2.2 q)) free (Nat.le_refl _)
        ⟨show 2 ≤ sizeLine by decide, [u', t'], .cons ru (.cons rt .nil), _, nw2, rfl, _, rfl⟩
    refine ⟨.ref s.heap.objs.size, _, I2, rfl, ⟨_, x, y, rfl, I.hok.fresh (Nat.le_refl _), rfl, fun l q => (I.list_inj q sx) ▸ gx, fun l q => (I.tuple_inj q sy) ▸ gy⟩, ?_, fun c q => ?_⟩
    · exact ⟨z2, (sb.2 _ D.TIz).trans (keep _ _ D.TIz D.TITO D.TIi1 D.TIi2 S.ti), ⟨u', t', (sb.2 _ D.TOz).trans o1⟩, s1.1.at fun o e => (sb.2 _ D.i1z).trans e, s2.1.at fun o e => (sb.2 _ D.i2z).trans e⟩
    · obtain ⟨o, ho2, _⟩ := five_live S q
      rw [upd_ne (Nat.ne_of_lt (Heap.lt_size ho2))]
      exact (free c q).1
  done := by
    intro X eP eW eK calm i pins s σ H E I free S st
    subst eP eW eK
    obtain ⟨xs, ys, ⟨sx, sy⟩, hend⟩ := st
    obtain ⟨us, vu, pu, _⟩ := I.list sx
    obtain ⟨ws, vw, pw, _⟩ := I.tuple sy
    obtain ⟨x0, y0, ho⟩ := S.to
    have hd : X.A.in1.handled = none := I.ok.hd calm
    have l1 : us.toArray.size = xs.length := by rw [vu.length]; simp
    have l2 : ws.toArray.size = ys.length := by rw [vw.length]; simp
    refine wpAny_pyNext_zipD2_end (sep_of D) (Draws.list hd i1 a D.l1i1 us.toArray) (Draws.tuple hd i2 b D.l2i2 ws.toArray) S.zp S.ti ho ⟨S.it1, pu.isList⟩ ⟨S.it2, pw⟩ (by rw [l1]; exact hend.1) (by rw [l2]; exact hend.2.1) (by rw [l1, l2]; exact hend.2.2) fun h' tk keep => ?_
    refine ⟨rfl, I.turnedL (t' := tk) (ch := [z, TI, TO, i1, i2]) (fun c o nc q => ?_) free⟩
    simp only [List.mem_cons, List.not_mem_nil, or_false, not_or] at nc
    exact keep c o nc.1 nc.2.2.1 nc.2.2.2.1 nc.2.2.2.2 q
  self := fun A i s Q E S q => wpAny_pyIter_zip S.zp q
def iZipM (K : PySem.W.Frag) (ta : TA) : TI := fun σ H R => ta σ H fun vs H1 => ∃ a b, vs = [.ref a, .ref b] ∧
  ((∃ xs ys, SqL K H1 a xs ∧ SqL K H1 b ys ∧ R (Itz K a b) H1) ∨ (∃ xs ys, SqT K H1 a xs ∧ SqT K H1 b ys ∧ R (RZ.ItzT K a b) H1) ∨ ∃ xs ys, SqL K H1 a xs ∧ SqT K H1 b ys ∧ R (ItzM K a b) H1)
theorem vals_two {x : V} {xs : List V} {us : List Value} (h : Vals (x :: xs) us) : ∃ u r, us = u :: r ∧ RelV x u ∧ Vals xs r := by
  cases h with
  | cons a b => exact ⟨_, _, rfl, a, b⟩
theorem vals_nil {us : List Value} (h : Vals [] us) : us = [] := by
  cases h
  rfl
theorem pi_zipM {X : Cx} {e e2 : Expr} {ta : TA} {p pos tpos : Pos} {elts : List Expr} {kk : Nat} (hg : Gl X "zip") (hm : X.mg "zip" = none) (ha : PA X [e, e2] ta)
    (hs : starEach [e, e2] X.env = (false, eval e X.env) :: starEach [e2] X.env := by rfl) (hpl : (backTo pos (starEach [e2] X.env)).any (·.1) = false := by rfl) :
    PI X (.Tuple elts kk tpos) (.Call (.Name "zip" p) [e, e2] [] pos) (iZipM X.K ta) := by
  refine ⟨fun pins s σ H R I q0 => ?_⟩
  refine Call_ (ld_blt I hg hm PyProof.Rows.boot_zip (PyProof.Rows.callWith_type1 (thn (ha.run pos pins s σ H _ I q0) fun us s1 ⟨vs, H1, I1, rv, q1⟩ => ?_) hs hpl))
  obtain ⟨a, b, rfl, q1⟩ := q1
  obtain ⟨u1, us', rfl, ru1, rt⟩ := vals_two rv
  obtain ⟨u2, us2, rfl, ru2, rt2⟩ := vals_two rt
  have z0 := vals_nil rt2
  subst z0
  have e1 : u1 = Value.ref a := ru1
  have e2 : u2 = Value.ref b := ru2
  subst e1 e2
  · skip
    have fp : ∀ c ∈ [s1.heap.objs.size + 4, s1.heap.objs.size + 2, s1.heap.objs.size + 3, s1.heap.objs.size, s1.heap.objs.size + 1], FpOk X pins H1 c := fun c q => by
      have le : s1.heap.objs.size ≤ c := by
        rcases five q with z | z | z | z | z <;> (rw [z]; first | exact Nat.le_add_right _ _ | exact Nat.le_refl _)
      exact I1.fpOk le (I1.hok.fresh le)
    rcases q1 with ⟨xs, ys, sx, sy, q⟩ | ⟨xs, ys, sx, sy, q⟩ | ⟨xs, ys, sx, sy, q⟩
    · obtain ⟨us, vu, pu, _⟩ := I1.list sx
      obtain ⟨ws, vw, pw, _⟩ := I1.list sy
      refine zip_begins2 (begins_list a us.toArray) (begins_list b ws.toArray) pu.isList pw.isList fun h' g1 g2 g3 g4 g5 sz kp => wpAny_pyIter_zip g1 ?_
      exact ⟨_, _, _, _, H1, rfl, I1.kept (t' := s1.toks) kp, turn_zip (PySem.W.ktu_apart s1.heap.objs.size a b pu.lt pw.lt), ⟨g1, g2, ⟨_, _, g3⟩, ⟨_, g4, rfl, rfl⟩, ⟨_, g5, rfl, rfl⟩⟩, fp, q⟩
    · obtain ⟨us, vu, pu, _⟩ := I1.tuple sx
      obtain ⟨ws, vw, pw, _⟩ := I1.tuple sy
      obtain ⟨o1, p1, _⟩ := id pu
      obtain ⟨o2, p2, _⟩ := id pw
      refine zip_begins2 (begins_tuple a us.toArray) (begins_tuple b ws.toArray) pu pw fun h' g1 g2 g3 g4 g5 sz kp => wpAny_pyIter_zip g1 ?_
      exact ⟨_, _, _, _, H1, rfl, I1.kept (t' := s1.toks) kp, RZ.turn_zipT (PySem.W.ktu_apart s1.heap.objs.size a b (Heap.lt_size p1) (Heap.lt_size p2)), ⟨g1, g2, ⟨_, _, g3⟩, ⟨_, g4, rfl, rfl⟩, ⟨_, g5, rfl, rfl⟩⟩, fp, q⟩
    · obtain ⟨us, vu, pu, _⟩ := I1.list sx
      obtain ⟨ws, vw, pw, _⟩ := I1.tuple sy
      obtain ⟨o2, p2, _⟩ := id pw
      refine zip_begins2 (begins_list a us.toArray) (begins_tuple b ws.toArray) pu.isList pw fun h' g1 g2 g3 g4 g5 sz kp => wpAny_pyIter_zip g1 ?_
      exact ⟨_, _, _, _, H1, rfl, I1.kept (t' := s1.toks) kp, turnM (PySem.W.ktu_apart s1.heap.objs.size a b pu.lt (Heap.lt_size p2)), ⟨g1, g2, ⟨_, _, g3⟩, ⟨_, g4, rfl, rfl⟩, ⟨_, g5, rfl, rfl⟩⟩, fp, q⟩
end Dv

end
section
set_option Elab.async false
set_option linter.all false
set_option maxRecDepth 100000
/-! Do: targets, walks, for, comprehensions, the def's rule. -/
namespace Dv
open PySem PySem.Spec L2
open PyProof.Rows hiding St
/-! ### targets -/
theorem wipe_set {σ : St} {i : Nat} {x : Option V} : ∀ js : List Nat, wipe (σ.set i x) js = if i ∈ js then wipe σ js else (wipe σ js).set i x
  | [] => rfl
  | j :: js => by
    show (wipe (σ.set i x) js).set j none = _
    rw [wipe_set js]
    show _ = if i ∈ j :: js then (wipe σ js).set j none else ((wipe σ js).set j none).set i x
    by_cases h : i ∈ js
    · rw [if_pos h, if_pos (List.mem_cons_of_mem _ h)]
    · rw [if_neg h]
      by_cases hj : i = j
      · subst hj
        rw [if_pos List.mem_cons_self, List.set_set]
      · rw [if_neg (fun z => (List.mem_cons.mp z).elim hj h), List.set_comm _ _ hj]
theorem wipe_set_in {σ : St} {i : Nat} {x : Option V} {js : List Nat} (h : i ∈ js) : wipe (σ.set i x) js = wipe σ js := by rw [wipe_set, if_pos h]
/-- vs: the slots that it may store -/
def tG (K : PySem.W.Frag) (vs : List Nat) (g : TGd) : TG := fun v σ H Q => ∃ H0 B0 τ Fs o τ', RS K H0 B0 H σ τ Fs ∧ Rp K H (fun a => B0 a ∨ a ∈ Fs.flatten) o v [] ∧ g o τ = some τ' ∧
  ∀ σ' Fs', RS K H0 B0 H σ' τ' Fs' → (∀ a ∈ Fs'.flatten, a ∈ Fs.flatten) → (∀ js, (∀ j ∈ vs, j ∈ js) → wipe σ' js = wipe σ js) → Q σ' H
def tGs (K : PySem.W.Frag) (vs : List Nat) (g : List O → Sl → Option Sl) : TGs := fun us σ H Q => ∃ H0 B0 τ Fs os τ', RS K H0 B0 H σ τ Fs ∧ Rps K H (fun a => B0 a ∨ a ∈ Fs.flatten) os us [] ∧ g os τ = some τ' ∧
  ∀ σ' Fs', RS K H0 B0 H σ' τ' Fs' → (∀ a ∈ Fs'.flatten, a ∈ Fs.flatten) → (∀ js, (∀ j ∈ vs, j ∈ js) → wipe σ' js = wipe σ js) → Q σ' H
theorem _root_.L2.PG.byD {X : Cx} {e : Expr} {t t' : TG} (h : PG X e t) (i : ∀ v σ H Q, t' v σ H Q → t v σ H Q) : PG X e t' := ⟨fun pins s σ H v u Q I r q => h.run pins s σ H v u Q I r (i v σ H Q q)⟩
theorem _root_.L2.PGs.byD {X : Cx} {e : List Expr} {t t' : TGs} (h : PGs X e t) (i : ∀ v σ H Q, t' v σ H Q → t v σ H Q) : PGs X e t' := ⟨fun pins s σ H v u Q I r q => h.run pins s σ H v u Q I r (i v σ H Q q)⟩
abbrev DG (X : Cx) (vs : List Nat) (e : Expr) (g : TGd) : Prop := PG X e (tG X.K vs g)
abbrev DGs (X : Cx) (vs : List Nat) (e : List Expr) (g : List O → Sl → Option Sl) : Prop := PGs X e (tGs X.K vs g)
section
variable {X : Cx} {e : Expr} {es : List Expr} {pos : Pos} {vs ws : List Nat} {g : TGd} {gs : List O → Sl → Option Sl}
theorem dg_name {i : Nat} {x : Str} (hN : X.N.Nodup) (hi : X.N[i]? = some x := by rfl) (hx : Loc X.env.scope x := by first | exact Or.inl rfl | exact Or.inr rfl) (hf : X.fn x = true ∨ X.env.scope.names.lookup x = some .local := by first | exact .inl rfl | exact .inr rfl) : DG X [i] (.Name x pos) (gN i) := by
  refine (pg_name hN hi hx hf).byD fun v σ H Q h => ?_
  obtain ⟨H0, B0, τ, Fs, o, τ', rs, r, hg, k⟩ := h
  cases hg
  refine k _ (Fs.set i []) (rs.set (F := []) (Same.refl H) (r.mono fun a z => z.elim id fun q => nomatch q) List.nodup_nil fun a z => nomatch z) (fun a z => ?_) fun js h => wipe_set_in (h i List.mem_cons_self)
  rcases flat_set z with z | ⟨j, G, _, e, z⟩
  · cases z
  · exact mem_flat e z
theorem dgs_nil : DGs X [] [] gsN := by
  refine pgs_nil.byD fun us σ H Q h => ?_
  obtain ⟨H0, B0, τ, Fs, os, τ', rs, r, hg, k⟩ := h
  cases os with
  | nil =>
    cases hg
    exact ⟨r.1, k σ Fs rs (fun _ z => z) fun _ _ => rfl⟩
  | cons _ _ => cases hg
theorem dgs_cons (h1 : DG X vs e g) (h2 : DGs X ws es gs) (hs : (assignEach (e :: es) X.env).map (·.2) = assign e X.env :: (assignEach es X.env).map (·.2) := by rfl) : DGs X (vs ++ ws) (e :: es) (gsC g gs) := by
  refine (pgs_cons h1 h2 hs).byD fun us σ H Q h => ?_
  obtain ⟨H0, B0, τ, Fs, os, τ', rs, r, hg, k⟩ := h
  cases os with
  | nil => cases hg
  | cons o os =>
    obtain ⟨τ1, h3, h4⟩ := bind_some hg
    obtain ⟨v, vr, F1, F2, e1, e2, r1, r2⟩ := r
    have e3 := List.append_eq_nil_iff.mp e2.symm
    obtain ⟨rfl, rfl⟩ := e3
    refine ⟨v, vr, e1, H0, B0, τ, Fs, o, τ1, rs, r1, h3, fun σ1 Fs1 rs1 sub1 w1 => ⟨H0, B0, τ1, Fs1, os, τ', rs1, r2.mono (fun a z => z.imp id (sub1 a)), h4, fun σ2 Fs2 rs2 sub2 w2 => k σ2 Fs2 rs2 (fun a z => sub1 a (sub2 a z)) fun js hj => ?_⟩⟩
    rw [w2 js fun j z => hj j (List.mem_append_right _ z), w1 js fun j z => hj j (List.mem_append_left _ z)]
theorem dg_tup {k n : Nat} (hc : X.calm = true) (h : DGs X vs es gs) (hn : (assignEach es X.env).length = n := by rfl) (hst : (assignEach es X.env).findIdx? (·.1) = none := by rfl) : DG X vs (.Tuple es k pos) (gT n gs) := by
  refine (pg_tup hc h hn hst).byD fun v σ H Q h => ?_
  obtain ⟨H0, B0, τ, Fs, o, τ', rs, r, hg, k⟩ := h
  cases o with
  | tup xs =>
    obtain ⟨a, us, e1, h2, q⟩ := r
    simp only [gT] at hg
    split at hg
    · rename_i hl
      exact ⟨a, us, e1, (SqT.of h2), by rw [← q.len]; exact hl, H0, B0, τ, Fs, xs, τ', rs, q, hg, k⟩
    · cases hg
  | kt ns =>
    obtain ⟨a, e1, _, h2⟩ := r
    simp only [gT] at hg
    split at hg
    · rename_i hl
      exact ⟨a, _, e1, h2.sq H, by rw [List.length_map]; exact hl, H0, B0, τ, Fs, ns.map O.int, τ', rs, Rps.ints rfl, hg, k⟩
    · cases hg
  | _ => cases hg
end

/-! ### walks -/
/-- the turns of J over os, wherever all but B stands -/
structure Walk (K : PySem.W.Frag) (B : Addr → Prop) (J : It) (os : List O) (H : Hp) : Prop where
  go : ∀ i H2, Ext B H H2 → i < os.length → J.go i H2
  stop : ∀ H2, Ext B H H2 → J.stop os.length H2
  yld : ∀ i o x H2 H3, Ext B H H2 → os[i]? = some o → J.yld i H2 x H3 → Same H2 H3 ∧ Rp K H3 (fun a => B a ∨ H a = none) o x []
theorem Walk.mono {K : PySem.W.Frag} {B B' : Addr → Prop} {J : It} {os : List O} {H : Hp} (h : Walk K B J os H) (i : ∀ a, B' a → B a) : Walk K B' J os H :=
  ⟨fun j H2 e => h.go j H2 (e.mono i), fun H2 e => h.stop H2 (e.mono i), fun j o x H2 H3 e q y => let ⟨a, b⟩ := h.yld j o x H2 H3 (e.mono i) q y; ⟨a, b.mono fun z w => w.imp (i z) id⟩⟩
def tI (K : PySem.W.Frag) (ns : List Nat) (f : SEs) : TI := fun σ H R => ∃ H0 B0 τ Fs xs, RS K H0 B0 H σ τ Fs ∧ f τ = some xs ∧ ∀ J H', Same H H' → Walk K (Av B0 ns Fs) J (frzs xs) H' → R J H'
theorem _root_.L2.PI.byD {X : Cx} {tg e : Expr} {t t' : TI} (h : PI X tg e t) (i : ∀ σ H Q, t' σ H Q → t σ H Q) : PI X tg e t' := ⟨fun pins s σ H Q I q => h.run pins s σ H Q I (i σ H Q q)⟩
abbrev DI (X : Cx) (tg : Expr) (ns : List Nat) (e : Expr) (f : SEs) : Prop := PI X tg e (tI X.K ns f)
section
variable {K : PySem.W.Frag} {B : Addr → Prop} {H : Hp}
theorem frz_len (xs : List O) : (frzs xs).length = xs.length := by rw [frzs_eq, List.length_map]
theorem sub_nil {F G : List Addr} (h : F.Sublist G) (e : G = []) : F = [] := by subst e; exact List.sublist_nil.mp h
/-- one item, later -/
theorem Rps.later {H2 : Hp} {os : List O} {vs : List V} {i : Nat} {o : O} (q : Rps K H B os vs []) (mB : MutB B H) (e : Ext B H H2) (h : os[i]? = some o) : ∃ v, vs[i]? = some v ∧ Rp K H2 (fun a => B a ∨ H a = none) o v [] := by
  obtain ⟨v, F1, e1, e2, e3⟩ := q.at h
  have z := sub_nil e3 rfl
  subst z
  refine ⟨v, e1, ?_⟩
  have r2 : Rp K H (fun a => B a ∨ H a = none) o v [] := e2.avoid fun a ne n z => z.elim n ne
  exact Rp.ext e mB (fun a z => .inl z) (fun a z => nomatch z) r2
theorem walk_list {a : Addr} {vs : List V} {os : List O} (h : H a = some (.lst vs)) (n : ¬ B a) (q : Rps K H B os vs []) (mB : MutB B H) : Walk K B (Itl K a) os H where
  go := fun i H2 e hi => ⟨vs, _, SqL.of (e a _ n h), List.getElem?_eq_getElem (by rw [← q.len]; exact hi)⟩
  stop := fun H2 e => ⟨vs, SqL.of (e a _ n h), by rw [q.len]; exact Nat.le_refl _⟩
  yld := fun i o x H2 H3 e ho y => by
    obtain ⟨rfl, y⟩ := y
    obtain ⟨v, e1, e2⟩ := q.later mB e ho
    have e3 := y vs (SqL.of (e a _ n h))
    rw [e1] at e3
    cases e3
    exact ⟨Same.refl _, e2⟩
theorem walk_tup {a : Addr} {vs : List V} {os : List O} (h : SqT K H a vs) (q : Rps K H B os vs []) (mB : MutB B H) : Walk K B (Itt K a) os H where
  go := fun i H2 e hi => ⟨vs, _, sqt_ext e mB h, List.getElem?_eq_getElem (by rw [← q.len]; exact hi)⟩
  stop := fun H2 e => ⟨vs, sqt_ext e mB h, by rw [q.len]; exact Nat.le_refl _⟩
  yld := fun i o x H2 H3 e ho y => by
    obtain ⟨rfl, y⟩ := y
    obtain ⟨v, e1, e2⟩ := q.later mB e ho
    have e3 := y vs (sqt_ext e mB h)
    rw [e1] at e3
    cases e3
    exact ⟨Same.refl _, e2⟩
theorem rng_len (lo : Int) : ∀ n, (rngL lo n).length = n
  | 0 => rfl
  | n + 1 => by show (rngL (lo + 1) n).length + 1 = n + 1; rw [rng_len (lo + 1) n]
theorem rng_at : ∀ (n : Nat) (lo : Int) (i : Nat) (o : O), (rngL lo n)[i]? = some o → o = .int (lo + i)
  | 0, _, _, _, h => by cases h
  | n + 1, lo, 0, o, h => by
    have : O.int lo = o := Option.some.inj h
    rw [← this]; simp
  | n + 1, lo, i + 1, o, h => by
    have := rng_at n (lo + 1) i o h
    rw [this]
    have e : lo + 1 + (i : Int) = lo + ((i + 1 : Nat) : Int) := by omega
    rw [e]
theorem rng_flat (lo : Int) : ∀ n, frzs (rngL lo n) = rngL lo n
  | 0 => rfl
  | n + 1 => by show O.int lo :: frzs (rngL (lo + 1) n) = _; rw [rng_flat (lo + 1) n]; rfl
theorem walk_rng (lo : Int) (n : Nat) : Walk K B (Itr lo n) (rngL lo n) H where
  go := fun i H2 e hi => by rw [rng_len] at hi; exact hi
  stop := fun H2 e => by rw [rng_len]; exact Nat.le_refl _
  yld := fun i o x H2 H3 e ho y => by
    obtain ⟨rfl, rfl⟩ := y
    rw [rng_at n lo i o ho]
    exact ⟨Same.refl _, rfl, rfl⟩
/-- a new pair at p -/
theorem pair_new {H2 : Hp} {p : Addr} {x y : O} {v w : V} {C : Addr → Prop} (hp : H2 p = none) (r1 : Rp K H2 C x v []) (r2 : Rp K H2 C y w []) : Rp K (upd H2 p (.tup [v, w])) C (.tup [x, y]) (.ref p) [] :=
  ⟨p, [v, w], rfl, upd_same, v, [w], [], [], rfl, rfl, r1.same (same_upd hp), w, [], [], [], rfl, rfl, r2.same (same_upd hp), rfl, rfl⟩
theorem enu_len : ∀ (os : List O) (i : Nat), (enuL i os).length = os.length
  | [], _ => rfl
  | o :: os, i => by show (enuL (i + 1) os).length + 1 = _; rw [enu_len os]; rfl
theorem enu_at : ∀ (os : List O) (k i : Nat) (o : O), (enuL k os)[i]? = some o → ∃ x, os[i]? = some x ∧ o = .tup [.int ((k + i : Nat) : Int), x]
  | [], _, _, _, h => by cases h
  | x :: os, k, 0, o, h => ⟨x, rfl, (Option.some.inj h).symm⟩
  | x :: os, k, i + 1, o, h => by
    obtain ⟨y, h1, h2⟩ := enu_at os (k + 1) i o h
    exact ⟨y, h1, by rw [h2, show k + 1 + i = k + (i + 1) by omega]⟩
theorem enu_frz : ∀ (os : List O) (k : Nat), frzs (enuL k os) = enuL k (frzs os)
  | [], _ => rfl
  | x :: os, k => by show O.tup [.int k, frz x] :: frzs (enuL (k + 1) os) = _; rw [enu_frz os]; rfl
theorem walk_enum {a : Addr} {vs : List V} {os : List O} (h : H a = some (.lst vs)) (n : ¬ B a) (q : Rps K H B os vs []) (mB : MutB B H) : Walk K B (Ite K a) (enuL 0 os) H where
  go := fun i H2 e hi => ⟨vs, _, SqL.of (e a _ n h), List.getElem?_eq_getElem (by rw [enu_len] at hi; rw [← q.len]; exact hi)⟩
  stop := fun H2 e => ⟨vs, SqL.of (e a _ n h), by rw [enu_len, q.len]; exact Nat.le_refl _⟩
  yld := fun i o x H2 H3 e ho y => by
    obtain ⟨T, x', rfl, hT, rfl, y⟩ := y
    obtain ⟨z, h1, rfl⟩ := enu_at os 0 i o ho
    obtain ⟨v, e1, e2⟩ := q.later mB e h1
    have e3 := y vs (SqL.of (e a _ n h))
    rw [e1] at e3
    cases e3
    refine ⟨same_upd hT, ?_⟩
    rw [Nat.zero_add]
    exact pair_new hT ⟨rfl, rfl⟩ e2
theorem zip_at : ∀ (xs ys : List O) (i : Nat) (o : O), (zipL xs ys)[i]? = some o → ∃ x y, xs[i]? = some x ∧ ys[i]? = some y ∧ o = .tup [x, y]
  | [], _, _, _, h => by cases h
  | _ :: _, [], _, _, h => by cases h
  | x :: xs, y :: ys, 0, o, h => ⟨x, y, rfl, rfl, (Option.some.inj h).symm⟩
  | x :: xs, y :: ys, i + 1, o, h => zip_at xs ys i o h
theorem zip_len : ∀ (xs ys : List O), (zipL xs ys).length = min xs.length ys.length
  | [], _ => by show 0 = min 0 _; omega
  | _ :: _, [] => by show 0 = min _ 0; omega
  | x :: xs, y :: ys => by show (zipL xs ys).length + 1 = min (xs.length + 1) (ys.length + 1); rw [zip_len xs ys]; omega
theorem zip_frz : ∀ (xs ys : List O), frzs (zipL xs ys) = zipL (frzs xs) (frzs ys)
  | [], _ => rfl
  | _ :: _, [] => rfl
  | x :: xs, y :: ys => by show O.tup [frz x, frz y] :: frzs (zipL xs ys) = _; rw [zip_frz xs ys]; rfl
theorem walk_zip {a b : Addr} {vs ws : List V} {os ps : List O} (h : H a = some (.lst vs)) (n : ¬ B a) (q : Rps K H B os vs []) (h' : H b = some (.lst ws)) (n' : ¬ B b) (q' : Rps K H B ps ws []) (mB : MutB B H) : Walk K B (Itz K a b) (zipL os ps) H where
  go := fun i H2 e hi => by
    rw [zip_len, q.len, q'.len] at hi
    exact ⟨vs, ws, _, _, SqL.of (e a _ n h), SqL.of (e b _ n' h'), List.getElem?_eq_getElem (show i < vs.length by omega), List.getElem?_eq_getElem (show i < ws.length by omega)⟩
  stop := fun H2 e => ⟨vs, ws, SqL.of (e a _ n h), SqL.of (e b _ n' h'), by rw [zip_len, q.len, q'.len]; omega⟩
  yld := fun i o x H2 H3 e ho y => by
    obtain ⟨T, x', y', rfl, hT, rfl, y1, y2⟩ := y
    obtain ⟨z, z', h1, h2, rfl⟩ := zip_at os ps i o ho
    obtain ⟨v, e1, e2⟩ := q.later mB e h1
    obtain ⟨w, e1', e2'⟩ := q'.later mB e h2
    have e3 := y1 vs (SqL.of (e a _ n h))
    rw [e1] at e3
    cases e3
    have e4 := y2 ws (SqL.of (e b _ n' h'))
    rw [e1'] at e4
    cases e4
    exact ⟨same_upd hT, pair_new hT e2 e2'⟩
theorem walk_zipM {a b : Addr} {vs ws : List V} {os ps : List O} (h : H a = some (.lst vs)) (n : ¬ B a) (q : Rps K H B os vs []) (h' : SqT K H b ws) (q' : Rps K H B ps ws []) (mB : MutB B H) : Walk K B (ItzM K a b) (zipL os ps) H where
  go := fun i H2 e hi => by
    rw [zip_len, q.len, q'.len] at hi
    exact ⟨vs, ws, _, _, ⟨SqL.of (e a _ n h), sqt_ext e mB h'⟩, List.getElem?_eq_getElem (show i < vs.length by omega), List.getElem?_eq_getElem (show i < ws.length by omega)⟩
  stop := fun H2 e => ⟨vs, ws, ⟨SqL.of (e a _ n h), sqt_ext e mB h'⟩, by rw [zip_len, q.len, q'.len]; omega⟩
  yld := fun i o x H2 H3 e ho y => by
    obtain ⟨T, x', y', rfl, hT, rfl, y1, y2⟩ := y
    obtain ⟨z, z', h1, h2, rfl⟩ := zip_at os ps i o ho
    obtain ⟨v, e1, e2⟩ := q.later mB e h1
    obtain ⟨w, e1', e2'⟩ := q'.later mB e h2
    have e3 := y1 vs (SqL.of (e a _ n h))
    rw [e1] at e3
    cases e3
    have e4 := y2 ws (sqt_ext e mB h')
    rw [e1'] at e4
    cases e4
    exact ⟨same_upd hT, pair_new hT e2 e2'⟩
theorem walk_zipT {a b : Addr} {vs ws : List V} {os ps : List O} (h : SqT K H a vs) (q : Rps K H B os vs []) (h' : SqT K H b ws) (q' : Rps K H B ps ws []) (mB : MutB B H) : Walk K B (RZ.ItzT K a b) (zipL os ps) H where
  go := fun i H2 e hi => by
    rw [zip_len, q.len, q'.len] at hi
    exact ⟨vs, ws, _, _, sqt_ext e mB h, sqt_ext e mB h', List.getElem?_eq_getElem (show i < vs.length by omega), List.getElem?_eq_getElem (show i < ws.length by omega)⟩
  stop := fun H2 e => ⟨vs, ws, sqt_ext e mB h, sqt_ext e mB h', by rw [zip_len, q.len, q'.len]; omega⟩
  yld := fun i o x H2 H3 e ho y => by
    obtain ⟨T, x', y', rfl, hT, rfl, y1, y2⟩ := y
    obtain ⟨z, z', h1, h2, rfl⟩ := zip_at os ps i o ho
    obtain ⟨v, e1, e2⟩ := q.later mB e h1
    obtain ⟨w, e1', e2'⟩ := q'.later mB e h2
    have e3 := y1 vs (sqt_ext e mB h)
    rw [e1] at e3
    cases e3
    have e4 := y2 ws (sqt_ext e mB h')
    rw [e1'] at e4
    cases e4
    exact ⟨same_upd hT, pair_new hT e2 e2'⟩
end
section
variable {X : Cx} {tg a b c e : Expr} {es : List Expr} {na nb ns ms vs : List Nat} {fa fb f : SE} {it : SEs} {pos : Pos} {g : TGd}
/-- list or tuple -/
def iSeq (K : PySem.W.Frag) (tl : TE) : TI := fun σ H R => tl σ H fun x H1 => (∃ a, x = .ref a ∧ (∃ xs, SqL K H1 a xs) ∧ R (Itl K a) H1) ∨ ∃ a, x = .ref a ∧ (∃ xs, SqT K H1 a xs) ∧ R (Itt K a) H1
theorem pi_seq {l : Expr} {tl : TE} (hl : PE X l tl) : PI X tg l (iSeq X.K tl) := by
  refine ⟨fun pins s σ H R I h => ?_⟩
  refine thn (hl.run pins s σ H _ I h) fun v s1 ⟨x, H1, I1, r1, q1⟩ => ?_
  rcases q1 with ⟨a, e, ⟨xs, hq⟩, q⟩ | ⟨a, e, ⟨xs, hq⟩, q⟩
  · subst e
    cases r1
    obtain ⟨its, rv, p, hz⟩ := I1.list hq
    refine wpAny_pyIter_list p.isList ?_
    refine ⟨s1.heap.objs.size, [s1.heap.objs.size], _, _, H1, rfl, I1.kept (t' := s1.toks) fun b o e => Heap.get?_push_of_some _ e, turn_list a _, ⟨_, Heap.get?_push_size _ rfl, rfl, rfl⟩, fun b hb => ?_, q⟩
    have e : b = s1.heap.objs.size := by simpa using hb
    subst e
    exact I1.fpOk (Nat.le_refl _) (I1.hok.fresh (Nat.le_refl _))
  · subst e
    cases r1
    obtain ⟨its, rv, p, hz⟩ := I1.tuple hq
    refine wpAny_pyIter_tuple (show s1.heap.IsTuple a its.toArray from p) ?_
    refine ⟨s1.heap.objs.size, [s1.heap.objs.size], _, _, H1, rfl, I1.kept (t' := s1.toks) fun b o e => Heap.get?_push_of_some _ e, turn_tuple a _, ⟨_, Heap.get?_push_size _ rfl, rfl, rfl⟩, fun b hb => ?_, q⟩
    have e : b = s1.heap.objs.size := by simpa using hb
    subst e
    exact I1.fpOk (Nat.le_refl _) (I1.hok.fresh (Nat.le_refl _))
/-- the items of a list or tuple, as views -/
theorem rp_items {K : PySem.W.Frag} {B : Addr → Prop} {H : Hp} {own : Bool} {xs : List O} {v : V} {F : List Addr} (r : Rp K H (Bor B F) (.lst own xs) v F) (f : ∀ a ∈ F, ¬ B a) : ∃ a vs, v = .ref a ∧ H a = some (.lst vs) ∧ ¬ B a ∧ Rps K H B (frzs xs) vs [] := by
  obtain ⟨a, vs, G, e1, h1, q1, sb, h2, h3⟩ := r.lst_at
  refine ⟨a, vs, e1, h1, ?_, (q1.mono fun _ => Or.inl).frz fun a z => f a (sb.subset z)⟩
  cases own with
  | true => exact f a (h2 rfl).1
  | false => exact fun z => h3 rfl (.inl z)
theorem di_seq (h : DE X ns e f) : DI X tg ns e (itL f) := by
  refine (pi_seq h).byD fun σ H R q => ?_
  obtain ⟨H0, B0, τ, Fs, xs, rs, hx, k⟩ := q
  obtain ⟨x, hx, ho⟩ := bind_some hx
  refine ⟨H0, B0, τ, Fs, x, rs, hx, fun v H1 F s1 r1 n1 f1 => ?_⟩
  have mB : MutB (Av B0 ns Fs) H1 := fun a z => (rs.go s1).mutAv z.all
  have fr : ∀ a ∈ F, ¬ Av B0 ns Fs a := fun a z => avB rs (f1 a z)
  cases x with
  | lst own ys =>
    cases ho
    obtain ⟨a, us, e1, h1, h2, h3⟩ := rp_items r1 fr
    exact .inl ⟨a, e1, ⟨us, SqL.of h1⟩, k _ H1 s1 (walk_list h1 h2 h3 mB)⟩
  | tup ys =>
    cases ho
    obtain ⟨a, us, e1, h1, q1⟩ := r1
    exact .inr ⟨a, e1, ⟨us, (SqT.of h1)⟩, k _ H1 s1 (walk_tup (SqT.of h1) ((q1.mono fun _ => Or.inl).frz fr) mB)⟩
  | kt ys =>
    cases ho
    obtain ⟨a, e1, _, h1⟩ := r1
    exact .inr ⟨a, e1, ⟨_, h1.sq H1⟩, k _ H1 s1 (walk_tup (h1.sq H1) (Rps.frz (F := []) (fun a z => nomatch z) (Rps.ints rfl)) mB)⟩
  | _ => cases ho
theorem di_rng1 {p : Pos} (hm : X.mg "range" = none) (ha : DE X ns a fa) (hg : Gl X "range" := by rfl) (hs : starEach [a] X.env = [(false, eval a X.env)] := by rfl) (h1 : starEach [a] X.env = (false, eval a X.env) :: starEach [] X.env := by rfl) : DI X tg ms (.Call (.Name "range" p) [a] [] pos) (itR1 fa) := by
  refine (pi_range1 hg hm (pa_cons ha pa_nil h1) hs).byD fun σ H R q => ?_
  obtain ⟨H0, B0, τ, Fs, xs, rs, hx, k⟩ := q
  obtain ⟨x, hx, ho⟩ := bind_some hx
  refine ⟨H0, B0, τ, Fs, x, rs, hx, fun v H1 F s1 r1 n1 f1 => ?_⟩
  cases x with
  | int j =>
    simp only at ho
    split at ho
    · rename_i hj
      cases ho
      obtain ⟨rfl, _⟩ := r1
      refine ⟨j, rfl, hj.1, hj.2, k _ H1 s1 ?_⟩
      rw [rng_flat]
      exact walk_rng 0 j.toNat
    · cases ho
  | _ => cases ho
theorem di_rng2 {p : Pos} (hm : X.mg "range" = none) (ha : DE X na a fa) (hb : DE X nb b fb) (hg : Gl X "range" := by rfl) (hs : starEach [a, b] X.env = [(false, eval a X.env), (false, eval b X.env)] := by rfl) (hs2 : starEach [b] X.env = [(false, eval b X.env)] := by rfl)
    (h1 : starEach [a, b] X.env = (false, eval a X.env) :: starEach [b] X.env := by rfl) (h2 : starEach [b] X.env = (false, eval b X.env) :: starEach [] X.env := by rfl) : DI X tg ms (.Call (.Name "range" p) [a, b] [] pos) (itR2 fa fb) := by
  refine (pi_range2 hg hm (pa_cons ha (pa_cons hb pa_nil h2) h1) hs hs2).byD fun σ H R q => ?_
  obtain ⟨H0, B0, τ, Fs, xs, rs, hx, k⟩ := q
  obtain ⟨x, hx, ho⟩ := bind_some hx
  obtain ⟨y, hy, ho⟩ := bind_some ho
  refine ⟨H0, B0, τ, Fs, x, rs, hx, fun v H1 F s1 r1 n1 f1 => ⟨H0, B0, τ, Fs, y, rs.go s1, hy, fun v2 H2 F2 s2 r2 n2 f2 => ?_⟩⟩
  cases x with
  | int i => cases y with
    | int j =>
      simp only at ho
      split at ho
      · rename_i hj
        cases ho
        obtain ⟨rfl, _⟩ := r1
        obtain ⟨rfl, _⟩ := r2
        refine ⟨i, j, rfl, hj, k _ H2 (s1.trans s2) ?_⟩
        rw [rng_flat]
        exact walk_rng i (j - i).toNat
      · cases ho
    | _ => cases ho
  | _ => cases ho
theorem di_enum {p tpos : Pos} {elts : List Expr} {kk : Nat} (hm : X.mg "enumerate" = none) (ha : DE X ns a fa) (hg : Gl X "enumerate" := by rfl) (hs : starEach [a] X.env = [(false, eval a X.env)] := by rfl) (h1 : starEach [a] X.env = (false, eval a X.env) :: starEach [] X.env := by rfl) :
    DI X (.Tuple elts kk tpos) ns (.Call (.Name "enumerate" p) [a] [] pos) (itEn fa) := by
  refine (pi_enum hg hm (pa_cons ha pa_nil h1) hs).byD fun σ H R q => ?_
  obtain ⟨H0, B0, τ, Fs, xs, rs, hx0, k⟩ := q
  obtain ⟨x, hx, ho⟩ := bind_some hx0
  refine ⟨H0, B0, τ, Fs, x, rs, hx, fun v H1 F s1 r1 n1 f1 => ?_⟩
  have mB : MutB (Av B0 ns Fs) H1 := fun a z => (rs.go s1).mutAv z.all
  cases x with
  | lst own ys =>
    cases ho
    obtain ⟨a, us, e1, h1, h2, h3⟩ := rp_items r1 fun a z => avB rs (f1 a z)
    refine ⟨a, us, by rw [e1], SqL.of h1, k _ H1 s1 ?_⟩
    rw [enu_frz]
    exact walk_enum h1 h2 h3 mB
  | _ => cases ho
theorem di_zip {p tpos : Pos} {elts : List Expr} {kk : Nat} (hm : X.mg "zip" = none) (ha : DE X na a fa) (hb : DE X nb b fb) (hg : Gl X "zip" := by rfl)
    (hs : starEach [a, b] X.env = (false, eval a X.env) :: starEach [b] X.env := by rfl) (hpl : (backTo pos (starEach [b] X.env)).any (·.1) = false := by rfl) (h2 : starEach [b] X.env = (false, eval b X.env) :: starEach [] X.env := by rfl) :
    DI X (.Tuple elts kk tpos) (na ++ nb) (.Call (.Name "zip" p) [a, b] [] pos) (itZ fa fb) := by
  refine (pi_zipM hg hm (pa_cons ha (pa_cons hb pa_nil h2) hs) hs hpl).byD fun σ H R q => ?_
  obtain ⟨H0, B0, τ, Fs, xs, rs, hx0, k⟩ := q
  obtain ⟨x, hx, ho1⟩ := bind_some hx0
  obtain ⟨y, hy, ho⟩ := bind_some ho1
  refine ⟨H0, B0, τ, Fs, x, rs, hx, fun v H1 F1 s1 r1 n1 f1 => ⟨H0, Bor B0 F1, τ, Fs, y, rs.more s1 r1.own f1, hy, fun v2 H2 F2 s2 r2 n2 f2 => ?_⟩⟩
  obtain ⟨n, ff⟩ := two_fresh (K := X.K) (B := B0) s1 r1.own n1 n2 f1 f2
  have mB : MutB (Av B0 (na ++ nb) Fs) H2 := fun a z => ((rs.go s1).go s2).mutAv z.all
  have fr : ∀ a ∈ F1 ++ F2, ¬ Av B0 (na ++ nb) Fs a := fun a z => avB rs (ff a z)
  have q1 := two_left (nb := nb) rs s2 r1 f2
  have q2 := r2.mono (two_right (na := na))
  have q1' : Rp X.K H2 (Bor (Av B0 (na ++ nb) Fs) F1) x v F1 := q1.mono fun a z => z.imp id fun z => List.mem_append_left _ z
  have q2' : Rp X.K H2 (Bor (Av B0 (na ++ nb) Fs) F2) y v2 F2 := q2.mono fun a z => z.imp id fun z => List.mem_append_right _ z
  cases x with
  | lst o1 us => cases y with
    | lst o2 ws =>
      cases ho
      obtain ⟨a, us', e1, h1, h2, h3⟩ := rp_items q1' fun a z => fr a (List.mem_append_left _ z)
      obtain ⟨b, ws', e1', h1', h2', h3'⟩ := rp_items q2' fun a z => fr a (List.mem_append_right _ z)
      refine ⟨a, b, by rw [e1, e1'], .inl ⟨us', ws', SqL.of h1, SqL.of h1', k _ H2 (s1.trans s2) ?_⟩⟩
      rw [zip_frz]
      exact walk_zip h1 h2 h3 h1' h2' h3' mB
    | tup ws =>
      cases ho
      obtain ⟨a, us', e1, h1, h2, h3⟩ := rp_items q1' fun a z => fr a (List.mem_append_left _ z)
      obtain ⟨b, ws', e1', h1', q3'⟩ := q2'
      refine ⟨a, b, by rw [e1, e1'], .inr (.inr ⟨us', ws', SqL.of h1, SqT.of h1', k _ H2 (s1.trans s2) ?_⟩)⟩
      rw [zip_frz]
      exact walk_zipM h1 h2 h3 (SqT.of h1') ((q3'.mono fun _ => Or.inl).frz fun a z => fr a (List.mem_append_right _ z)) mB
    | _ => cases ho
  | tup us => cases y with
    | tup ws =>
      cases ho
      obtain ⟨a, us', e1, h1, q3⟩ := q1'
      obtain ⟨b, ws', e1', h1', q3'⟩ := q2'
      refine ⟨a, b, by rw [e1, e1'], .inr (.inl ⟨us', ws', (SqT.of h1), (SqT.of h1'), k _ H2 (s1.trans s2) ?_⟩)⟩
      rw [zip_frz]
      exact walk_zipT (SqT.of h1) ((q3.mono fun _ => Or.inl).frz fun a z => fr a (List.mem_append_left _ z)) (SqT.of h1') ((q3'.mono fun _ => Or.inl).frz fun a z => fr a (List.mem_append_right _ z)) mB
    | kt ws =>
      cases ho
      obtain ⟨a, us', e1, h1, q3⟩ := q1'
      obtain ⟨b, e1', _, h1'⟩ := q2'
      refine ⟨a, b, by rw [e1, e1'], .inr (.inl ⟨us', _, (SqT.of h1), (h1'.sq H2), k _ H2 (s1.trans s2) ?_⟩)⟩
      rw [zip_frz]
      exact walk_zipT (SqT.of h1) ((q3.mono fun _ => Or.inl).frz fun a z => fr a (List.mem_append_left _ z)) (h1'.sq H2) (Rps.frz (F := []) (fun a z => nomatch z) (Rps.ints rfl)) mB
    | _ => cases ho
  | kt us => cases y with
    | tup ws =>
      cases ho
      obtain ⟨a, e1, _, h1⟩ := q1'
      obtain ⟨b, ws', e1', h1', q3'⟩ := q2'
      refine ⟨a, b, by rw [e1, e1'], .inr (.inl ⟨_, ws', (h1.sq H2), (SqT.of h1'), k _ H2 (s1.trans s2) ?_⟩)⟩
      rw [zip_frz]
      exact walk_zipT (h1.sq H2) (Rps.frz (F := []) (fun a z => nomatch z) (Rps.ints rfl)) (SqT.of h1') ((q3'.mono fun _ => Or.inl).frz fun a z => fr a (List.mem_append_right _ z)) mB
    | _ => cases ho
  | _ => cases y <;> cases ho

/-! ### for -/
theorem ds_for {body : List Stmt} {sb : SS} (hp : PassesOwn (model X.prog X.w) X.A X.env X.xe) (hc : X.calm = true) (hi : DI X tg ns e it) (hg : DG X vs tg g) (hb : DSs X body sb) (hs : ∀ x, foldedSetIterable e X.env x = pure x := by intro _; rfl) :
    DS X (.For tg e body [] pos) (sFor ns it g sb) := by
  refine (ps_for hp hc hi hg hb hs).byD fun D σ H h => ?_
  obtain ⟨H0, B0, τ, Fs, r, rs, hr, k⟩ := h
  obtain ⟨xs, hx, hr⟩ := bind_some hr
  refine ⟨H0, B0, τ, Fs, xs, rs, hx, fun J H1 s1 wk => ?_⟩
  have rz := (rs.go s1).frzAt ns
  have stz : Step Fs (zeroAt ns Fs) H H1 := (⟨Ext.of s1, fun a z => .inl z⟩ : Step Fs Fs H H1).trans zero_step fun x z => rs.mutF z
  -- what the loop's slots hold is out of the walk's reach or new
  have avz : ∀ {Fs2 : List (List Addr)} {H2 : Hp}, Step (zeroAt ns Fs) Fs2 H1 H2 → ∀ a ∈ Fs2.flatten, Av B0 ns Fs a ∨ H1 a = none := fun {Fs2 H2} st a z => by
    rcases st.new a z with z | z
    · obtain ⟨j, G, h1, e, z⟩ := zero_av ns z
      exact .inl (.inr ⟨j, G, h1, e, z⟩)
    · exact .inr z
  have ext : ∀ {Fs2 : List (List Addr)} {H2 : Hp}, Step (zeroAt ns Fs) Fs2 H1 H2 → Ext (Av B0 ns Fs) H1 H2 := fun {Fs2 H2} st => st.ext.mono fun a z => by
    obtain ⟨j, G, h1, e, z⟩ := zero_av ns z
    exact .inr ⟨j, G, h1, e, z⟩
  refine ⟨fun i m σ' H' => ∃ τ' Fs', RS X.K H0 B0 H' σ' τ' Fs' ∧ forD g sb ((frzs xs).drop i) τ' = some r ∧ Step (zeroAt ns Fs) Fs' H1 H' ∧ m = (frzs xs).length - i ∧ i ≤ (frzs xs).length,
    ⟨_, _, zeroAt ns Fs, rz, hr, Step.refl, rfl, Nat.zero_le _⟩, ?_⟩
  rintro i m σ2 H2 ⟨τ2, Fs2, rs2, h2, st2, rfl, hi2⟩
  have st02 : Step Fs Fs2 H H2 := stz.trans st2 fun x z => rs.mutF z
  by_cases hlt : i < (frzs xs).length
  · refine .inr ⟨wk.go i H2 (ext st2) hlt, fun σ' H' => ∃ τ' Fs', RS X.K H0 B0 H' σ' τ' Fs' ∧ forD g sb ((frzs xs).drop (i + 1)) τ' = some r ∧ Step (zeroAt ns Fs) Fs' H1 H', fun σ' H' ⟨τ', Fs', a, b, c⟩ => ⟨(frzs xs).length - (i + 1), by omega, τ', Fs', a, b, c, rfl, hlt⟩, fun x H3 y => ?_⟩
    have ho : (frzs xs)[i]? = some ((frzs xs)[i]) := List.getElem?_eq_getElem hlt
    obtain ⟨s3, r3⟩ := wk.yld i _ x H2 H3 (ext st2) ho y
    rw [List.drop_eq_getElem_cons hlt] at h2
    unfold forD at h2
    obtain ⟨τ3, hg3, h2⟩ := bind_some h2
    refine ⟨H0, B0, τ2, Fs2, _, τ3, rs2.go s3, r3.mono fun a z => ?_, hg3, fun σ4 Fs4 rs4 sub4 _ => ?_⟩
    · rcases z with z | z
      · exact .inl (.inl z)
      · exact avz st2 a z
    · have st4 : Step Fs2 Fs4 H2 H3 := ⟨Ext.of s3, fun a z => .inl (sub4 a z)⟩
      have st14 : Step (zeroAt ns Fs) Fs4 H1 H3 := st2.trans st4 fun x z => rz.mutF z
      have st04 : Step Fs Fs4 H H3 := st02.trans st4 fun x z => rs.mutF z
      cases hy : sb τ3 with
      | none => rw [hy] at h2; cases h2
      | some p =>
        rw [hy] at h2
        refine ⟨H0, B0, τ3, Fs4, p, rs4, hy, ?_⟩
        cases p with
        | nx τ5 => exact fun σ5 H5 Fs5 rs5 st5 => ⟨τ5, Fs5, rs5, h2, st14.trans st5 fun x z => rz.mutF z⟩
        | ct τ5 => exact fun σ5 H5 Fs5 rs5 st5 => ⟨τ5, Fs5, rs5, h2, st14.trans st5 fun x z => rz.mutF z⟩
        | bk τ5 => cases h2; exact fun σ5 H5 Fs5 rs5 st5 => k σ5 H5 Fs5 rs5 (st04.trans st5 fun x z => rs.mutF z)
        | rt o => cases h2; exact k
  · have e : i = (frzs xs).length := by omega
    subst e
    rw [List.drop_length] at h2
    cases h2
    exact .inl ⟨wk.stop H2 (ext st2), k σ2 H2 Fs2 rs2 st02⟩
end
end Dv

end
section
set_option Elab.async false
set_option linter.all false
set_option maxRecDepth 100000
/-! Dp: comprehensions, targets of many, the def's rule. -/
namespace Dv
open PySem PySem.Spec L2
open PyProof.Rows hiding St
section
variable {K : PySem.W.Frag}
theorem wipe_get {σ : St} {i : Nat} : ∀ {js : List Nat}, i ∉ js → (wipe σ js)[i]? = σ[i]?
  | [], _ => rfl
  | j :: js, h => by
    show ((wipe σ js).set j none)[i]? = _
    rw [List.getElem?_set_ne (fun (q : j = i) => h (q ▸ List.mem_cons_self)), wipe_get fun z => h (List.mem_cons_of_mem _ z)]
theorem wipe_at {σ : St} {j : Nat} : ∀ {is : List Nat}, j ∈ is → (wipe σ is)[j]? = if j < σ.length then some none else none
  | k :: is, h => by
    show ((wipe σ is).set k none)[j]? = _
    by_cases hk : k = j
    · subst hk
      by_cases hl : k < σ.length
      · rw [if_pos hl, List.getElem?_set_self (by rw [wipe_length]; exact hl)]
      · rw [if_neg hl, List.getElem?_eq_none (by rw [List.length_set, wipe_length]; omega)]
    · rw [List.getElem?_set_ne hk]
      exact wipe_at ((List.mem_cons.mp h).resolve_left (fun q => hk q.symm))
theorem wipe_idem {σ : St} {is : List Nat} : wipe (wipe σ is) is = wipe σ is := by
  apply List.ext_getElem?
  intro j
  by_cases h : j ∈ is
  · rw [wipe_at h, wipe_at h, wipe_length]
  · rw [wipe_get h]
theorem wipeD_len (τ : Sl) : ∀ js : List Nat, (wipeD js τ).length = τ.length
  | [] => rfl
  | j :: js => by show ((wipeD js τ).set j none).length = _; rw [List.length_set, wipeD_len τ js]
theorem wipeD_some {τ : Sl} {i : Nat} {o : O} : ∀ {js : List Nat}, (wipeD js τ)[i]? = some (some o) → τ[i]? = some (some o) ∧ i ∉ js
  | [], h => ⟨h, fun z => nomatch z⟩
  | j :: js, h => by
    have h : ((wipeD js τ).set j none)[i]? = some (some o) := h
    by_cases hj : j = i
    · subst hj
      by_cases hl : j < (wipeD js τ).length
      · rw [List.getElem?_set_self hl] at h; cases h
      · rw [List.getElem?_eq_none (by rw [List.length_set]; omega)] at h; cases h
    · rw [List.getElem?_set_ne hj] at h
      obtain ⟨a, b⟩ := wipeD_some h
      exact ⟨a, fun z => by rcases List.mem_cons.mp z with z | z; exact hj z.symm; exact b z⟩
theorem keepD_len (ns : List Nat) : ∀ (τ : Sl) (k : Nat), (keepD ns k τ).length = τ.length
  | [], _ => rfl
  | s :: τ, k => by show (keepD ns (k + 1) τ).length + 1 = _; rw [keepD_len ns τ]; rfl
theorem keepD_some {ns : List Nat} : ∀ {τ : Sl} {k i : Nat} {o : O}, (keepD ns k τ)[i]? = some (some o) → ∃ o', τ[i]? = some (some o') ∧ o = frz o' ∧ k + i ∈ ns
  | [], _, _, _, h => by cases h
  | s :: τ, k, 0, o, h => by
    have h : some (if ns.contains k then frzSlot s else none) = some (some o) := h
    have h := Option.some.inj h
    by_cases hc : ns.contains k = true
    · rw [if_pos hc] at h
      cases s with
      | none => cases h
      | some o' =>
        have h : some (frz o') = some o := h
        exact ⟨o', rfl, (Option.some.inj h).symm, by simpa using hc⟩
    · rw [if_neg hc] at h; cases h
  | s :: τ, k, i + 1, o, h => by
    obtain ⟨o', a, b, c⟩ := keepD_some (τ := τ) (k := k + 1) (i := i) h
    exact ⟨o', a, b, by rw [show k + (i + 1) = k + 1 + i by omega]; exact c⟩
theorem rep_flat (n : Nat) : (List.replicate n ([] : List Addr)).flatten = [] := by
  induction n with
  | zero => rfl
  | succ n ih => rw [List.replicate_succ, List.flatten_cons, ih]; rfl
theorem rep_get {n i : Nat} {F : List Addr} (h : (List.replicate n ([] : List Addr))[i]? = some F) : F = [] := by
  have := List.mem_of_getElem? h
  exact (List.mem_replicate.mp this).2
theorem rep_some {n i : Nat} (h : i < n) : (List.replicate n ([] : List Addr))[i]? = some [] := by
  rw [List.getElem?_replicate, if_pos h]
/-- the slots within a comprehension's block -/
theorem RS.block {H0 H H1 Hc : Hp} {B0 : Addr → Prop} {σ : St} {τ : Sl} {Fs : List (List Addr)} {ns vs : List Nat} {G : List Addr} (rs : RS K H0 B0 H σ τ Fs) (s1 : Same H H1) (sc : Same H1 Hc) (mG : ∀ a ∈ G, Mut (Hc a)) (nG : ∀ a ∈ G, H1 a = none) :
    RS K Hc (Bor (Av B0 ns Fs) G) Hc (wipe σ vs) (wipeD vs (keepD ns 0 τ)) (List.replicate τ.length []) := by
  have rc := (rs.go s1).go sc
  refine ⟨Same.refl _, fun a z => ?_, fun a z => ?_, ?_, ?_, ?_, fun a z => ?_, fun i o h => ?_, fun i h => ?_⟩
  · rcases z with z | z
    · exact rc.mutAv z.all
    · exact mG a z
  · rw [rep_flat] at z; cases z
  · rw [List.length_replicate, wipeD_len, keepD_len]
  · rw [wipe_length, wipeD_len, keepD_len]; exact rs.lenσ
  · rw [rep_flat]; exact List.nodup_nil
  · rw [rep_flat] at z; cases z
  · obtain ⟨h1, h2⟩ := wipeD_some h
    obtain ⟨o', h3, h4, h5⟩ := keepD_some h1
    rw [Nat.zero_add] at h5
    obtain ⟨v, e1, e2⟩ := rs.view h3
    subst h4
    refine ⟨v, [], by rw [wipe_get h2]; exact e1, rep_some (List.getElem?_eq_some_iff.mp h3).1, ?_⟩
    refine Rp.same (s1.trans sc) (e2.avoid fun a ne n z => ?_)
    rcases z with (z | z) | z
    · rcases z with z | ⟨j, F, hj, e, z⟩
      · exact n (.inl z)
      · exact n (.inr ⟨j, F, fun q => hj (List.mem_singleton.mp q ▸ h5), e, z⟩)
    · have := nG a z
      exact ne (s1.free this)
    · rw [rep_flat] at z; cases z
  · have hl := (List.getElem?_eq_some_iff.mp h).1
    rw [wipeD_len, keepD_len] at hl
    exact rep_some hl
end
section
variable {X : Cx}
abbrev DTs (X : Cx) (ifs : List Expr) (t : ST) : Prop := PTs X ifs (tT X.K t)
theorem dts_nil : DTs X [] tY := ⟨fun pins s σ H Q I h => pts_nil.run pins s σ H Q I (by
  obtain ⟨H0, B0, τ, Fs, b, rs, hb, k⟩ := h
  cases hb
  exact k H (Same.refl H))⟩
theorem dts_one {c : Expr} {t : ST} (h : DT X c t) : DTs X [c] t := pts_one h
theorem lcD_len {g : TGd} {t : ST} {e : SE} : ∀ {xs : List O} {τ : Sl} {os : List O}, lcD g t e xs τ = some os → os.length ≤ xs.length
  | [], τ, os, h => by cases h; exact Nat.le_refl _
  | x :: xs, τ, os, h => by
    unfold lcD at h
    obtain ⟨τ1, _, h⟩ := bind_some h
    obtain ⟨b, _, h⟩ := bind_some h
    cases b with
    | true =>
      rw [if_pos rfl] at h
      obtain ⟨o, _, h⟩ := bind_some h
      obtain ⟨r, h1, h⟩ := bind_some h
      cases h
      exact Nat.succ_le_succ (lcD_len h1)
    | false =>
      rw [if_neg Bool.false_ne_true] at h
      exact Nat.le_succ_of_le (lcD_len h)
theorem lc_imp {nit ns ne vs vs' : List Nat} {it : SEs} {g : TGd} {t : ST} {f : SE} (hsub : ∀ i ∈ nit, i ∈ ns) (hv : ∀ i ∈ vs', i ∈ vs) (σ : St) (H : Hp) (Q : VK) (q : tE X.K ns (xLc ns vs it g t f) σ H Q) :
    tLc (tI X.K nit it) (tG X.K vs' g) (tT X.K t) (tE X.K ne f) vs σ H Q := by
  obtain ⟨H0, B0, τ, Fs, o, rs, ho, k⟩ := q
  obtain ⟨xs, hx, ho⟩ := bind_some ho
  refine ⟨H0, B0, τ, Fs, xs, rs, hx, fun J H1 s1 wk0 D hD => ?_⟩
  have wk := wk0.mono (B' := Av B0 ns Fs) fun a z => by
    rcases z with z | ⟨j, F, hj, e, z⟩
    · exact .inl z
    · exact .inr ⟨j, F, fun q => hj (hsub j q), e, z⟩
  have hl0 : xs.length ≤ sLine := by
    by_cases h : xs.length ≤ sLine
    · exact h
    · rw [if_neg h] at ho; cases ho
  rw [if_pos hl0] at ho
  obtain ⟨os, hos, ho⟩ := bind_some ho
  cases ho
  have hlen := frz_len xs
  generalize hτb : wipeD vs (keepD ns 0 τ) = τb at hos
  refine ⟨fun i m Hc => ∃ ao av G r, i ≤ (frzs xs).length ∧ m = (frzs xs).length - i ∧ Same H1 Hc ∧ lcD g t f ((frzs xs).drop i) τb = some r ∧ os = ao ++ r ∧ Hc D = some (.lst av) ∧ Rps X.K Hc (Bor (Av B0 ns Fs) (D :: G)) ao av G ∧ (D :: G).Nodup ∧ (∀ a ∈ G, H1 a = none) ∧ ao.length ≤ i,
    ⟨_, [], [], [], os, Nat.zero_le _, rfl, same_upd hD, hos, rfl, upd_same, ⟨rfl, rfl⟩, List.nodup_cons.mpr ⟨(fun z => nomatch z), List.nodup_nil⟩, (fun a z => nomatch z), Nat.le_refl _⟩, ?_⟩
  rintro i m Hc ⟨ao, av, G, r, hi, rfl, sc, hr, eo, hDc, rao, nd, fG, hal⟩
  by_cases hlt : i < (frzs xs).length
  · refine .inr ⟨wk.go i Hc (Ext.of sc) hlt, fun H' => ∃ ao av G r, Same H1 H' ∧ lcD g t f ((frzs xs).drop (i + 1)) τb = some r ∧ os = ao ++ r ∧ H' D = some (.lst av) ∧ Rps X.K H' (Bor (Av B0 ns Fs) (D :: G)) ao av G ∧ (D :: G).Nodup ∧ (∀ a ∈ G, H1 a = none) ∧ ao.length ≤ i + 1,
      fun H' ⟨ao, av, G, r, a, b, c, d, e, f', g', h'⟩ => ⟨(frzs xs).length - (i + 1), by omega, ao, av, G, r, hlt, rfl, a, b, c, d, e, f', g', h'⟩, fun x H3 y => ?_⟩
    have hoi : (frzs xs)[i]? = some ((frzs xs)[i]) := List.getElem?_eq_getElem hlt
    obtain ⟨s3, r3⟩ := wk.yld i _ x Hc H3 (Ext.of sc) hoi y
    rw [List.drop_eq_getElem_cons hlt] at hr
    unfold lcD at hr
    obtain ⟨τ1, hg, hr⟩ := bind_some hr
    obtain ⟨b, hb, hr⟩ := bind_some hr
    have mG : ∀ a ∈ D :: G, Mut (H3 a) := fun a z => by
      have m : Mut (Hc a) := by
        rcases List.mem_cons.mp z with rfl | z
        · rw [hDc]; trivial
        · exact rao.own a z
      cases q : Hc a with
      | none => rw [q] at m; exact m.elim
      | some u => rw [s3 a u q]; rw [q] at m; exact m
    have nG : ∀ a ∈ D :: G, H1 a = none := fun a z => by
      rcases List.mem_cons.mp z with rfl | z
      · exact hD
      · exact fG a z
    have rb := RS.block (K := X.K) (ns := ns) (vs := vs) rs s1 (sc.trans s3) mG nG
    rw [hτb] at rb
    refine ⟨H3, _, τb, _, _, τ1, rb, r3.mono fun a z => ?_, hg, fun σ2 Fs2 rs2 sub2 w2 => ⟨(w2 vs hv).trans wipe_idem, ?_⟩⟩
    · rcases z with (z | z) | z
      · exact .inl z
      · exact .inr (nG a z)
      · rw [rep_flat] at z; cases z
    · refine ⟨H3, _, τ1, Fs2, b, rs2, hb, fun H4 s4 => ?_⟩
      cases b with
      | false =>
        rw [if_neg Bool.false_ne_true] at hr
        exact iteF ⟨ao, av, G, r, sc.trans (s3.trans s4), hr, eo, s4 _ _ (s3 _ _ hDc), rao.same (s3.trans s4), nd, fG, Nat.le_succ_of_le hal⟩
      | true =>
        rw [if_pos rfl] at hr
        obtain ⟨o, ho, hr⟩ := bind_some hr
        obtain ⟨r', hr', hr⟩ := bind_some hr
        cases hr
        refine iteT ⟨H3, _, τ1, Fs2, o, rs2.go s4, ho, fun v H5 F s5 r5 n5 f5 => ?_⟩
        have s35 := s3.trans (s4.trans s5)
        have hD5 := s35 _ _ hDc
        have fF : ∀ a ∈ F, H3 a = none := fun a z => s4.free (f5 a z)
        have fF1 : ∀ a ∈ F, H1 a = none := fun a z => sc.free (s3.free (fF a z))
        have DF : D ∉ F := fun z => by have := fF D z; rw [s3 _ _ hDc] at this; cases this
        have GF : ∀ a ∈ G, a ∉ F := fun a z q => by
          have m := mG a (List.mem_cons_of_mem _ z)
          exact mut_some m (fF a q)
        have nd' : (D :: (G ++ F)).Nodup := by
          rw [List.nodup_cons] at nd ⊢
          exact ⟨fun z => (List.mem_append.mp z).elim nd.1 DF, List.nodup_append.mpr ⟨nd.2, n5, fun a z b z' e => GF a z (e ▸ z')⟩⟩
        refine ⟨av, hD5, ?_, ao ++ [o], av ++ [v], G ++ F, r', ?_, hr', by rw [eo, List.append_assoc]; rfl, upd_same, ?_, nd', fun a z => (List.mem_append.mp z).elim (fG a) (fF1 a), by rw [List.length_append]; exact Nat.succ_le_succ hal⟩
        · rw [← rao.len]
          have : sLine = sizeLine := rfl
          omega
        · intro a u q
          have := sc a u q
          rw [upd_ne (fun (z : a = D) => by rw [z, hD] at q; cases q)]
          exact s35 a u this
        · -- behind the store at D
          have ex : Ext (fun a => a = D) H5 (upd H5 D (.lst (av ++ [v]))) := fun a o n e => by rw [upd_ne n]; exact e
          have mB : MutB (fun a => a = D) H5 := fun a z => by rw [z, hD5]; trivial
          have a1 : Rps X.K H5 (Bor (Av B0 ns Fs) (D :: (G ++ F))) ao av G := Rps.same (s4.trans s5) ((rao.same s3).avoid fun a ne n z => by
            rcases z with z | z
            · exact n (.inl z)
            · rcases List.mem_cons.mp z with z | z
              · exact n (.inr (by rw [z]; exact List.mem_cons_self))
              · rcases List.mem_append.mp z with z | z
                · exact n (.inr (List.mem_cons_of_mem _ z))
                · exact ne (fF a z))
          have a2 : Rps X.K H5 (Bor (Av B0 ns Fs) (D :: (G ++ F))) [o] [v] F := ⟨v, [], F, [], rfl, by rw [List.append_nil], r5.mono fun a z => (by
            rcases z with z | z
            · exact .inl (.inl (.inl z))
            · rcases List.mem_cons.mp z with z | z
              · exact .inl (.inl (.inr (by rw [z]; exact List.mem_cons_self)))
              · rcases List.mem_append.mp z with z | z
                · exact .inl (.inl (.inr (List.mem_cons_of_mem _ z)))
                · exact .inr z), rfl, rfl⟩
          exact Rps.ext ex mB (fun a z => .inr (by rw [z]; exact List.mem_cons_self)) (fun a z u q => by rw [upd_ne (fun (w : a = D) => (List.nodup_cons.mp nd').1 (w ▸ z))]; exact q) (a1.append a2)
  · have e : i = (frzs xs).length := by omega
    subst e
    rw [List.drop_length] at hr
    cases hr
    rw [List.append_nil] at eo
    subst eo
    refine .inl ⟨wk.stop Hc (Ext.of sc), k (.ref D) Hc (D :: G) (s1.trans sc) ⟨D, av, G, rfl, hDc, rfl, rao⟩ nd fun a z => ?_⟩
    rcases List.mem_cons.mp z with rfl | z
    · exact s1.free hD
    · exact s1.free (fG a z)
theorem de_lc {nit ns ne vs' : List Nat} {elt tg iter : Expr} {ifs : List Expr} {scope : Scope} {own : List (Str × Nat)} {pos : Pos} {it : SEs} {g : TGd} {t : ST} {f : SE} (hc : X.calm = true) (hN : X.N.Nodup) (hi : DI X tg nit iter it) (ok : BlkOk X.N X.env.scope scope own)
    (hg : ∀ (s : Shared) (H : Hp) (C : Addr) (cl : List (Str × Addr)) (fp : List Addr), PG (X.blk s H scope (compEnvC scope cl C X.env) fp) tg (tG X.K vs' g))
    (ht : ∀ (s : Shared) (H : Hp) (C : Addr) (cl : List (Str × Addr)) (fp : List Addr), PTs (X.blk s H scope (compEnvC scope cl C X.env) fp) ifs (tT X.K t))
    (he : ∀ (s : Shared) (H : Hp) (C : Addr) (cl : List (Str × Addr)) (fp : List Addr), PE (X.blk s H scope (compEnvC scope cl C X.env) fp) elt (tE X.K ne f))
    (hsub : ∀ i ∈ nit, i ∈ ns := by decide) (hv : ∀ i ∈ vs', i ∈ own.map (·.2) := by decide) (hs : ∀ x, foldedSetIterable iter X.env x = pure x := by intro _; rfl) :
    DE X ns (.ListComp elt [⟨tg, iter, ifs, 0⟩] scope pos) (xLc ns (own.map (·.2)) it g t f) :=
  (pe_lc hc hN hi ok hg ht he hs).byD fun σ H Q q => lc_imp hsub hv σ H Q q
theorem ds_setLc {nit ns ne vs' : List Nat} {i : Nat} {y : Str} {py : Pos} {elt tg iter : Expr} {ifs : List Expr} {scope : Scope} {own : List (Str × Nat)} {pos spos : Pos} {it : SEs} {g : TGd} {t : ST} {f : SE} (hc : X.calm = true) (hN : X.N.Nodup)
    (hi : DI X tg nit iter it) (ok : BlkOk X.N X.env.scope scope own)
    (hg : ∀ (s : Shared) (H : Hp) (C : Addr) (cl : List (Str × Addr)) (fp : List Addr), PG (X.blk s H scope (compEnvC scope cl C X.env) fp) tg (tG X.K vs' g))
    (ht : ∀ (s : Shared) (H : Hp) (C : Addr) (cl : List (Str × Addr)) (fp : List Addr), PTs (X.blk s H scope (compEnvC scope cl C X.env) fp) ifs (tT X.K t))
    (he : ∀ (s : Shared) (H : Hp) (C : Addr) (cl : List (Str × Addr)) (fp : List Addr), PE (X.blk s H scope (compEnvC scope cl C X.env) fp) elt (tE X.K ne f))
    (hy : X.N[i]? = some y) (hyl : X.env.scope.names.lookup y = some .local) (hsw : swapsWith (.ListComp elt [⟨tg, iter, ifs, 0⟩] scope pos) (some (.Name y py)) spos.line X.env = pure true)
    (hsub : ∀ i ∈ nit, i ∈ ns := by decide) (hv : ∀ i ∈ vs', i ∈ own.map (·.2) := by decide) (hs : ∀ x, foldedSetIterable iter X.env x = pure x := by intro _; rfl) :
    DS X (.Assign [.Name y py] (.ListComp elt [⟨tg, iter, ifs, 0⟩] scope pos) spos) (sSet ns i (xLc ns (own.map (·.2)) it g t f)) := by
  refine (ps_setLc hc hN hy hyl hsw hi ok hg ht he hs).byD fun D σ H h => ?_
  obtain ⟨H0, B0, τ, Fs, r, rs, hr, k⟩ := h
  obtain ⟨o, ho, hr⟩ := bind_some hr
  cases hr
  refine lc_imp (ns := ns) hsub hv σ H _ ⟨H0, B0, τ, Fs, o, rs, ho, fun v H1 F s1 r1 n1 f1 => ?_⟩
  obtain ⟨Fs', rs', st'⟩ := rs.put (i := i) s1 r1 n1 f1
  exact k _ H1 Fs' rs' st'

/-! ### a, b = e -/
theorem ds_asg {ns vs : List Nat} {tg e : Expr} {f : SE} {g : TGd} {pos : Pos} (he : DE X ns e f) (hg : DG X vs tg g) (hs : swapsWithSole [tg] e pos.line X.env = pure false := by rfl) (hw : swappedStores [tg] e X.env = pure none := by rfl)
    (h1 : (assignEach [tg] X.env).map (·.2) = [assign tg X.env] := by rfl) : DS X (.Assign [tg] e pos) (sAsg ns f g) := by
  refine (ps_asg he hg hs hw h1).byD fun D σ H h => ?_
  obtain ⟨H0, B0, τ, Fs, r, rs, hr, k⟩ := h
  obtain ⟨o, ho, hr⟩ := bind_some hr
  obtain ⟨τ', hg', hr⟩ := bind_some hr
  cases hr
  refine ⟨H0, B0, τ, Fs, o, rs, ho, fun v H1 F s1 r1 n1 f1 => ?_⟩
  obtain ⟨Fs1, rs1, r2, st1⟩ := rs.taken r1
  have av : ∀ a ∈ F, ¬ (B0 a ∨ a ∈ Fs1.flatten) := fun a z q => mut_some (rs1.mutAv q) (f1 a z)
  refine ⟨H0, B0, _, Fs1, Dv.frz o, τ', rs1.go s1, (r2.mono fun _ => Or.inl).frz av, hg', fun σ' Fs' rs' sub' _ => k σ' H1 Fs' rs' ?_⟩
  exact st1.trans ⟨Ext.of s1, fun a z => .inl (sub' a z)⟩ fun x z => rs.mutF z
theorem cleans_two {x y : O} : cleans [x, y] = (clean x && (clean y && true)) := rfl
/-- a row of read values -/
theorem RS.takens {K : PySem.W.Frag} {H0 H H1 : Hp} {B0 : Addr → Prop} {σ : St} {τ : Sl} {Fs : List (List Addr)} {ns : List Nat} {os : List O} {vs : List V} {F : List Addr} (rs : RS K H0 B0 H σ τ Fs) (r : Rps K H1 (Bor (Av B0 ns Fs) F) os vs F) :
    ∃ Fs1, RS K H0 B0 H σ (if cleans os then τ else Dv.frzAt ns τ) Fs1 ∧ Rps K H1 (Bor (fun a => B0 a ∨ a ∈ Fs1.flatten) F) os vs F ∧ Step Fs Fs1 H H := by
  by_cases hc : cleans os = true
  · rw [if_pos hc]
    exact ⟨Fs, rs, r.clean hc, Step.refl⟩
  · rw [if_neg hc]
    refine ⟨_, rs.frzAt ns, r.mono fun a z => ?_, zero_step⟩
    rcases z with (z | z) | z
    · exact .inl (.inl z)
    · obtain ⟨j, G, h1, e, z⟩ := zero_av ns z
      exact .inl (.inr ⟨j, G, h1, e, z⟩)
    · exact .inr z
theorem RS.setv {K : PySem.W.Frag} {H0 H : Hp} {B0 : Addr → Prop} {σ : St} {τ : Sl} {Fs : List (List Addr)} {i : Nat} {o : O} {v : V} (rs : RS K H0 B0 H σ τ Fs) (r : Rp K H (fun a => B0 a ∨ a ∈ Fs.flatten) o v []) :
    RS K H0 B0 H (σ.set i (some v)) (τ.set i (some o)) (Fs.set i []) ∧ (∀ a ∈ (Fs.set i []).flatten, a ∈ Fs.flatten) := by
  refine ⟨rs.set (F := []) (Same.refl H) (r.mono fun a z => z.elim id fun q => nomatch q) List.nodup_nil (fun a z => nomatch z), fun a z => ?_⟩
  rcases flat_set z with z | ⟨j, G, _, e, z⟩
  · cases z
  · exact mem_flat e z
theorem ds_par {ns : List Nat} {i j : Nat} {x y : Str} {a b : Expr} {fs : SEs} {px py pt pos : Pos} {kt k2 pt2} (hc : X.calm = true) (hN : X.N.Nodup) (ha : DA X ns [a, b] fs) (hi : X.N[i]? = some x := by rfl) (hj : X.N[j]? = some y := by rfl) (hij : i ≠ j := by decide)
    (hx : X.env.scope.names.lookup x = some .local := by rfl) (hy : X.env.scope.names.lookup y = some .local := by rfl)
    (hw : swappedStores [.Tuple [.Name x px, .Name y py] kt pt] (.Tuple [a, b] k2 pt2) X.env = pure (some [x, y]) := by rfl)
    (hs : swapsWithSole [.Tuple [.Name x px, .Name y py] kt pt] (.Tuple [a, b] k2 pt2) pos.line X.env = pure false := by rfl) :
    DS X (.Assign [.Tuple [.Name x px, .Name y py] kt pt] (.Tuple [a, b] k2 pt2) pos) (sPar ns i j fs) := by
  refine (ps_par hc hN hi hj hij hx hy ha hw hs).byD fun D σ H h => ?_
  obtain ⟨H0, B0, τ, Fs, r, rs, hr, k⟩ := h
  obtain ⟨os, ho, hr⟩ := bind_some hr
  refine ⟨H0, B0, τ, Fs, os, rs, ho, fun vs H1 F s1 r1 n1 f1 => ?_⟩
  match os, hr with
  | [o, p], hr =>
    cases hr
    obtain ⟨Fs1, rs1, r2, st1⟩ := rs.takens r1
    have av : ∀ a ∈ F, ¬ (B0 a ∨ a ∈ Fs1.flatten) := fun a z q => mut_some (rs1.mutAv q) (f1 a z)
    obtain ⟨v, w, F1, F2, rfl, _, q1, q2⟩ := rps2 ((r2.mono fun _ => Or.inl).frz av)
    rename_i e
    obtain ⟨rfl, rfl⟩ := List.append_eq_nil_iff.mp e.symm
    obtain ⟨rs2, sub2⟩ := (rs1.go s1).setv (i := i) q1
    obtain ⟨rs3, sub3⟩ := rs2.setv (i := j) (q2.mono fun a z => z.imp id (sub2 a))
    exact ⟨v, w, rfl, k _ H1 _ rs3 (st1.trans ⟨Ext.of s1, fun a z => .inl (sub2 a (sub3 a z))⟩ fun x z => rs.mutF z)⟩
theorem ds_par3 {ns : List Nat} {i j l : Nat} {x y z : Str} {a b c : Expr} {fs : SEs} {px py pz pt pos : Pos} {kt k2 pt2} (hc : X.calm = true) (hN : X.N.Nodup) (ha : DA X ns [a, b, c] fs) (hi : X.N[i]? = some x := by rfl) (hj : X.N[j]? = some y := by rfl) (hl : X.N[l]? = some z := by rfl) (hij : i ≠ j := by decide) (hil : i ≠ l := by decide) (hjl : j ≠ l := by decide)
    (hx : X.env.scope.names.lookup x = some .local := by rfl) (hy : X.env.scope.names.lookup y = some .local := by rfl) (hz : X.env.scope.names.lookup z = some .local := by rfl)
    (hw : swappedStores [.Tuple [.Name x px, .Name y py, .Name z pz] kt pt] (.Tuple [a, b, c] k2 pt2) X.env = pure (some [x, y, z]) := by rfl)
    (hs : swapsWithSole [.Tuple [.Name x px, .Name y py, .Name z pz] kt pt] (.Tuple [a, b, c] k2 pt2) pos.line X.env = pure false := by rfl) :
    DS X (.Assign [.Tuple [.Name x px, .Name y py, .Name z pz] kt pt] (.Tuple [a, b, c] k2 pt2) pos) (sPar3 ns i j l fs) := by
  refine (ps_par3 hc hN hi hj hl hij hil hjl hx hy hz ha hw hs).byD fun D σ H h => ?_
  obtain ⟨H0, B0, τ, Fs, r, rs, hr, k⟩ := h
  obtain ⟨os, ho, hr⟩ := bind_some hr
  refine ⟨H0, B0, τ, Fs, os, rs, ho, fun vs H1 F s1 r1 n1 f1 => ?_⟩
  match os, hr with
  | [o, p, q], hr =>
    cases hr
    obtain ⟨Fs1, rs1, r2, st1⟩ := rs.takens r1
    have av : ∀ a ∈ F, ¬ (B0 a ∨ a ∈ Fs1.flatten) := fun a z q => mut_some (rs1.mutAv q) (f1 a z)
    obtain ⟨v, vr, F1, F2, e1, e2, q1, q2⟩ := (r2.mono fun _ => Or.inl).frz av
    obtain ⟨rfl, rfl⟩ := List.append_eq_nil_iff.mp e2.symm
    obtain ⟨w, u, F1, F2, e3, e4, q3, q4⟩ := rps2 q2
    obtain ⟨rfl, rfl⟩ := List.append_eq_nil_iff.mp e4.symm
    obtain ⟨rs2, sub2⟩ := (rs1.go s1).setv (i := i) q1
    obtain ⟨rs3, sub3⟩ := rs2.setv (i := j) (q3.mono fun a z => z.imp id (sub2 a))
    obtain ⟨rs4, sub4⟩ := rs3.setv (i := l) (q4.mono fun a z => z.imp id fun z => sub2 a (sub3 a z))
    exact ⟨v, w, u, by rw [e1, e3], k _ H1 _ rs4 (st1.trans ⟨Ext.of s1, fun a z => .inl (sub2 a (sub3 a (sub4 a z)))⟩ fun x z => rs.mutF z)⟩
end

/-! ### the def's rule -/
theorem start_rs {K : PySem.W.Frag} {H : Hp} {B : Addr → Prop} {os : List O} {vs : List V} {N : List Str} (r : Rps K H B os vs []) (m : MutB B H) (hN : os.length ≤ N.length) :
    RS K H B H (L2.start N vs) (os.map (fun o => some (frz o)) ++ List.replicate (N.length - os.length) none) (List.replicate N.length []) := by
  have rz : Rps K H B (frzs os) vs [] := r.frz (F := []) (fun a z => nomatch z)
  have hl := r.len
  refine ⟨Same.refl _, m, fun a z => ?_, ?_, ?_, ?_, fun a z => ?_, fun i o h => ?_, fun i h => ?_⟩
  · rw [rep_flat] at z; cases z
  · rw [List.length_replicate, List.length_append, List.length_map, List.length_replicate]; omega
  · unfold L2.start
    rw [List.length_append, List.length_map, List.length_replicate, List.length_append, List.length_map, List.length_replicate, hl]
  · rw [rep_flat]; exact List.nodup_nil
  · rw [rep_flat] at z; cases z
  · have h1 : i < os.length := by
      by_cases hi : i < os.length
      · exact hi
      · rw [List.getElem?_append_right (by rw [List.length_map]; omega)] at h
        have := List.mem_of_getElem? h
        cases (List.mem_replicate.mp this).2
    rw [List.getElem?_append_left (by rw [List.length_map]; exact h1), List.getElem?_map] at h
    obtain ⟨o', h2, h3⟩ := Option.map_eq_some_iff.mp h
    cases h3
    have h4 : (frzs os)[i]? = some (frz o') := by rw [frzs_eq, List.getElem?_map, h2]; rfl
    obtain ⟨v, F1, e1, e2, e3⟩ := rz.at h4
    have z := sub_nil e3 rfl
    subst z
    refine ⟨v, [], ?_, rep_some (by omega), e2.mono fun a z => z.elim id fun z => by rw [rep_flat] at z; cases z⟩
    unfold L2.start
    rw [List.getElem?_append_left (by rw [List.length_map]; exact (List.getElem?_eq_some_iff.mp e1).1), List.getElem?_map, e1]
    rfl
  · have hi := (List.getElem?_eq_some_iff.mp h).1
    rw [List.length_append, List.length_map, List.length_replicate] at hi
    exact rep_some (by omega)
theorem fn_ok {P : Program} {w : World} {K : PySem.W.Frag} {mg : Str → Option Value} {base : Heap} {x qual : Str} {st : Stmt} {f : Addr} {fd : FuncData} {N ps : List Str} {k : Nat} {body : SS} (F : Fun K x qual st f fd) (S : FnScope N ps (defScope st))
    (hb : ∀ (cdv : Value) (A : Around) (outer : List Env) (s : Shared) (H : Hp) (E : XK), Room k (A.deeper (envOfC qual (defScope st) s.heap.objs.size f cdv)) → DSs (cxOf CX0 P w K mg base N qual (defScope st) f cdv A outer s H E).nox (defBody st) body) :
    FnOk P w K mg base CX0 (k + 1) f fd ps (spF K ps.length (fnD ps.length N.length body)) := by
  have hpN : ps.length ≤ N.length := by
    have := congrArg List.length S.pre
    rw [List.length_take] at this
    omega
  refine F.ok S (fun vs H Q E ⟨os, B, o, h1, h2, _⟩ => by rw [← h2.len, h1]) fun cdv A outer s H vs Q E hr h => ?_
  obtain ⟨os, B, o, h1, h2, h3, h4, h5⟩ := h
  refine ⟨_, hb cdv A outer s H E hr, ?_⟩
  unfold fnD at h4
  rw [if_pos h1] at h4
  have rs := start_rs (N := N) h2 h3 (by omega)
  rw [h1] at rs
  split at h4
  · rename_i o' hbody
    cases h4
    exact ⟨H, B, _, _, .rt o, rs, hbody, fun v H' F s r n f => h5 v H' F s r n f⟩
  · rename_i τ' hbody
    cases h4
    exact ⟨H, B, _, _, .nx τ', rs, hbody, fun σ' H' Fs' rs' st' => h5 .non H' [] rs'.same ⟨rfl, rfl⟩ List.nodup_nil fun a z => nomatch z⟩
  · cases h4
end Dv

end
section
set_option Elab.async false
set_option linter.all false
set_option maxRecDepth 100000
/-! Dq: a def as it stands, a def that keeps its promise, the end. -/
namespace Dv
open PySem PySem.Spec L2
open PyProof.Rows hiding St
/-- the def stands -/
def DefF (K : PySem.W.Frag) (mg : Str → Option Value) (x : Str) (st : Stmt) (ps : List Str) : Prop := ∃ f fd, Fun K x x st f fd ∧ mg x = some (.ref f) ∧ ∀ us : List Value, us.length = ps.length → bindArgs fd ⟨us, []⟩ = pure (ps.zip us)
/-- .. and keeps its promise -/
def Ok (P : Program) (w : World) (K : PySem.W.Frag) (mg : Str → Option Value) (base : Heap) (k : Nat) (x : Str) (ps : List Str) (fn : List O → Option O) : Prop :=
  ∃ f fd, FnOk P w K mg base CX0 k f fd ps (spF K ps.length fn) ∧ mg x = some (.ref f) ∧ PySem.W.keepIn K (.ref f) = true ∧ (∀ us : List Value, us.length = ps.length → bindArgs fd ⟨us, []⟩ = pure (ps.zip us)) ∧ ∃ oc od osl, K.lookup f = some ⟨oc, od, .func fd, osl⟩
theorem fun_lk {K : PySem.W.Frag} {x q : Str} {st : Stmt} {f : Addr} {fd : FuncData} (F : Fun K x q st f fd) : ∃ oc od osl, K.lookup f = some ⟨oc, od, .func fd, osl⟩ := by
  obtain ⟨oc, od, kV, doc, pm, an, cdv, ct, osl, rfl, lk, hcd⟩ := F.ex
  exact ⟨oc, od, osl, lk⟩
theorem def_mk {K : PySem.W.Frag} {h : Heap} {mg : Str → Option Value} {x : Str} {st : Stmt} {ps : List Str} {f : Addr} {oc : Value} {od an : Option Addr} {osl : Array (Option Value)} {kV doc pm cdv ct : Value} (X : K.In h) (G : h.Ns mainGlobals mg)
    (a : PySem.W.nsIn K mainGlobals x = some (some (.ref f))) (l : K.lookup f = some ⟨oc, od, .func (PySem.W.fnOf x x (defArgs st) (defBody st) (defScope st) .none kV doc pm an cdv ct), osl⟩) (c : PySem.W.codeIn K cdv x = true) (k : PySem.W.keepIn K (.ref f) = true)
    (b : ∀ us : List Value, us.length = ps.length → bindArgs (PySem.W.fnOf x x (defArgs st) (defBody st) (defScope st) .none kV doc pm an cdv ct) ⟨us, []⟩ = pure (ps.zip us)) : DefF K mg x st ps :=
  ⟨f, _, fun_mk l c k, PySem.W.mg_of X G a, b⟩
section
variable {P : Program} {w : World} {K : PySem.W.Frag} {mg : Str → Option Value} {base : Heap}
theorem ok_mk {x : Str} {st : Stmt} {N ps : List Str} {k : Nat} {body : SS} (D : DefF K mg x st ps) (S : FnScope N ps (defScope st))
    (hb : ∀ (f : Addr) (cdv : Value) (A : Around) (outer : List Env) (s : Shared) (H : Hp) (E : XK), Room k (A.deeper (envOfC x (defScope st) s.heap.objs.size f cdv)) → DSs (cxOf CX0 P w K mg base N x (defScope st) f cdv A outer s H E).nox (defBody st) body) :
    Ok P w K mg base (k + 1) x ps (fnD ps.length N.length body) := by
  obtain ⟨f, fd, F, g, b⟩ := D
  exact ⟨f, fd, fn_ok F S (hb f), g, F.kp, b, fun_lk F⟩
theorem ok_none {x : Str} {st : Stmt} {ps : List Str} (D : DefF K mg x st ps) : Ok P w K mg base 0 x ps fun _ => none := by
  obtain ⟨f, fd, F, g, b⟩ := D
  exact ⟨f, fd, fn_none, g, F.kp, b, fun_lk F⟩
theorem Ok.up {j k : Nat} {x : Str} {ps : List Str} {fn : List O → Option O} (h : Ok P w K mg base j x ps fn) (i : j ≤ k) : Ok P w K mg base k x ps fn := by
  obtain ⟨f, fd, F, g, b⟩ := h
  exact ⟨f, fd, F.mono i, g, b⟩
/-- another function with the same values -/
theorem Ok.imp {k : Nat} {x : Str} {ps : List Str} {fn fn' : List O → Option O} (h : Ok P w K mg base k x ps fn) (i : ∀ os o, fn' os = some o → fn os = some o) : Ok P w K mg base k x ps fn' := by
  obtain ⟨f, fd, F, g, b⟩ := h
  exact ⟨f, fd, F.imp fun vs H Q E ⟨os, B, o, h1, h2, h3, h4, h5⟩ => ⟨os, B, o, h1, h2, h3, i os o h4, h5⟩, g, b⟩
end
theorem de_def {X : Cx} {ns : List Nat} {e : Expr} {es : List Expr} {fs : SEs} {pos : Pos} {k : Nat} {ps : List Str} {fn : List O → Option O} {x : Str} {p : Pos} (C : Ok X.prog X.w X.K X.mg X.base k x ps fn) (hr : Room k X.A) (ha : DA X ns (e :: es) fs) (hlen : ∀ τ os, fs τ = some os → os.length = ps.length)
    (hg : Gl X x := by rfl) (hdb : (x == ("__debug__" : Str)) = false := by decide) (hl : (e :: es).length = ps.length := by rfl) (he : starEach (e :: es) X.env = (false, eval e X.env) :: starEach es X.env := by rfl) (hpl : (backTo pos (starEach es X.env)).any (·.1) = false := by rfl) :
    DE X ns (.Call (.Name x p) (e :: es) [] pos) (xCall fn fs) := by
  obtain ⟨f, fd, F, g, kp, b, _⟩ := C
  exact de_call F hr hg g kp (.all b) ha hl hdb he hpl hlen
theorem xs_len0 : ∀ τ os, xsN τ = some os → os.length = 0 := fun τ os h => by cases h; rfl
theorem xs_len {a : SE} {r : SEs} {n : Nat} (h : ∀ τ os, r τ = some os → os.length = n) : ∀ τ os, xsC a r τ = some os → os.length = n + 1 := fun τ os q => by
  obtain ⟨x, hx, q⟩ := bind_some q
  obtain ⟨xs, hxs, q⟩ := bind_some q
  cases q
  show xs.length + 1 = n + 1
  rw [h τ xs hxs]
theorem aug_add {p q : Int} {o : O} (h : addD (.int p) (.int q) = some o) (H : Hp) (Q : VK) (k : ∀ z, (∀ (K : PySem.W.Frag) B, Rp K H B o z []) → Q z H) : ipI (fun i j => i + j) (.int p) (.int q) H Q := by
  cases h
  exact ⟨p, q, rfl, rfl, k _ fun _ _ => ⟨rfl, rfl⟩⟩
theorem aug_sub {p q : Int} {o : O} (h : subD (.int p) (.int q) = some o) (H : Hp) (Q : VK) (k : ∀ z, (∀ (K : PySem.W.Frag) B, Rp K H B o z []) → Q z H) : ipI (fun i j => i - j) (.int p) (.int q) H Q := by
  cases h
  exact ⟨p, q, rfl, rfl, k _ fun _ _ => ⟨rfl, rfl⟩⟩
/-- the built-in names stand -/
structure Blt (mg : Str → Option Value) : Prop where
  abs : mg "abs" = none
  all : mg "all" = none
  any : mg "any" = none
  enumerate : mg "enumerate" = none
  int : mg "int" = none
  isinstance : mg "isinstance" = none
  len : mg "len" = none
  list : mg "list" = none
  max : mg "max" = none
  min : mg "min" = none
  range : mg "range" = none
  zip : mg "zip" = none
  bool : mg "bool" = none
  tuple : mg "tuple" = none
  str : mg "str" = none
  sorted : mg "sorted" = none
  sum : mg "sum" = none
  dict : mg "dict" = none
/-- the end: of the law's def -/
theorem end_law {l : PySem.W.OpenLaw} {q : Program} {loose : List Str} {XP : (Str → Option Value) → Heap → Prop} {YP : World → Heap → Prop} {d : DefRec} {K : Params → PySem.W.Frag} {k : Nat} {x : Str} {fn : List O → Option O} (hn : l.most = some 63) (hdf : d.params.defaults = []) (hr : Room k callerA)
    (hY : ∀ (w : World) (h : Heap), YP w h → (K w.params).In h)
    (F : ∀ (w : World) (mg : Str → Option Value) (h : Heap), (K w.params).In h → h.Ns mainGlobals mg → ∀ base : Heap, Ok l.prog w (K w.params) mg base k d.name [x] fn)
    (ht : ∀ ns : List Int, ns.length ≤ 63 → fn [.scr ns] = some (.bl true)) :
    PySem.W.WalkO q loose XP YP l.row.toRowW d [] (fun f vs => PySem.call f vs) := by
  refine L2.walk_of (n := 63) (k := k) (x := x) (CX := fun _ => CX0) (sp := fun w => spF (K w.params) 1 fn) hn (by decide) hdf hr hY (fun w mg fa h KX G hmg => ?_) (fun w H a ns hl hO hS => ?_) fun _ _ _ _ _ z => z
  · obtain ⟨f, fd, F1, g1, k1, b1, oc, od, osl, l1⟩ := F w mg h KX G h
    have e := hmg.symm.trans g1
    cases e
    refine ⟨fd, fun s u => .of_eq (b1 [u] rfl), fun base _ _ => ?_⟩
    obtain ⟨f2, fd2, F2, g2, k2, b2, oc2, od2, osl2, l2⟩ := F w mg h KX G base
    have e2 := g1.symm.trans g2
    cases e2
    rw [l1] at l2
    cases l2
    exact F2
  · refine ⟨[.scr ns], fun _ => False, .bl true, rfl, ⟨.ref a, [], [], [], rfl, rfl, ⟨a, rfl, rfl, fun H' k => ?_⟩, rfl, rfl⟩, fun _ z => z.elim, ht ns hl, fun v H' F s r n f => r.1⟩
    rcases hS with (hS | ⟨o, hS⟩) | hS
    · rcases hO a with z | ⟨_, _, z⟩ <;> rw [hS] at z <;> cases z
    · exact .inl (.inr ⟨o, k o _ hS⟩)
    · exact .inr hS
end Dv

end
section
set_option Elab.async false
set_option linter.all false
set_option maxRecDepth 100000
/-! Mt: tools for the mathematics over Dv. -/
namespace Dv
/-- far above all numbers here -/
def BIG : Nat := 2 ^ 250
theorem big_log {n : Nat} (h : n < BIG) : n.log2 < 2000 := by
  by_cases h0 : n = 0
  · subst h0; decide
  · exact (Nat.log2_lt h0).mpr (Nat.lt_of_lt_of_le h (Nat.pow_le_pow_right (by decide) (by decide)))
theorem mulOk_of {i j : Int} (hi : i.natAbs < BIG) (hj : j.natAbs < BIG) : mulOk i j = true := by
  unfold mulOk
  have := big_log hi
  have := big_log hj
  exact decide_eq_true (by omega)
theorem divOk_of {j : Int} (h0 : 0 < j) (hj : j.natAbs < BIG) : divOk j = true := by
  have h := big_log hj
  unfold divOk
  rw [decide_eq_true h0, decide_eq_true (by omega)]
  rfl
theorem le_sLine {n : Nat} (h : n ≤ 4096) : (n ≤ sLine) = True := eq_true (Nat.le_trans h (by decide))
/-- not above n in size -/
abbrev Bd (n : Nat) (x : Int) : Prop := x.natAbs ≤ n
theorem Bd.mul {n m : Nat} {x y : Int} (hx : Bd n x) (hy : Bd m y) : Bd (n * m) (x * y) := by
  unfold Bd
  rw [Int.natAbs_mul]
  exact Nat.mul_le_mul hx hy
theorem mul_ok {n m : Nat} {x y : Int} (hx : Bd n x) (hy : Bd m y) (hn : n < BIG := by decide) (hm : m < BIG := by decide) : mulOk x y = true := mulOk_of (Nat.lt_of_le_of_lt hx hn) (Nat.lt_of_le_of_lt hy hm)
/-! ### lists of flat things -/
theorem frzs_flat' {xs : List O} (h : ∀ x ∈ xs, flat x = true) : frzs xs = xs := by
  apply frzs_flat
  rw [flats_eq, List.all_eq_true]
  exact h
theorem frzs_ints (L : List Int) : frzs (L.map O.int) = L.map O.int := frzs_flat' fun x h => by
  obtain ⟨a, _, rfl⟩ := List.mem_map.mp h
  rfl
mutual
theorem clean_of_flat : ∀ {o : O}, flat o = true → clean o = true
  | .non, _ => rfl
  | .bl _, _ => rfl
  | .int _, _ => rfl
  | .str _, _ => rfl
  | .scr _, _ => rfl
  | .anc _, _ => rfl
  | .kt _, _ => rfl
  | .tup xs, h => cleans_of_flats h
  | .lst _ _, h => nomatch h
  | .dK _ _ _, h => nomatch h
  | .dT _ _ _, h => nomatch h
theorem cleans_of_flats : ∀ {xs : List O}, flats xs = true → cleans xs = true
  | [], _ => rfl
  | x :: xs, h => by
    have h' : (flat x && flats xs) = true := h
    rw [Bool.and_eq_true] at h'
    show (clean x && cleans xs) = true
    rw [clean_of_flat h'.1, cleans_of_flats h'.2]; rfl
end
theorem cleans_flat {xs : List O} (h : ∀ x ∈ xs, flat x = true) : cleans xs = true := cleans_of_flats (by rw [flats_eq, List.all_eq_true]; exact h)
theorem cleans_ints (L : List Int) : cleans (L.map O.int) = true := cleans_flat fun x h => by
  obtain ⟨a, _, rfl⟩ := List.mem_map.mp h
  rfl
/-- the item at i -/
def nth (L : List Int) (i : Int) : Int := L.getD i.toNat 0
theorem at_ints {L : List Int} {i : Int} (h0 : 0 ≤ i) (h1 : i < L.length) : at? (L.map O.int) i = some (.int (nth L i)) := by
  unfold at? nth
  rw [if_pos h0, List.getElem?_map, List.getD_eq_getElem?_getD]
  have : i.toNat < L.length := by omega
  rw [List.getElem?_eq_getElem this]
  rfl
theorem nth_mem {L : List Int} {i : Int} (h0 : 0 ≤ i) (h1 : i < L.length) : nth L i ∈ L := by
  unfold nth
  have : i.toNat < L.length := by omega
  rw [List.getD_eq_getElem?_getD, List.getElem?_eq_getElem this]
  exact List.getElem_mem this
/-! ### for -/
theorem forD_inv {g : TGd} {b : SS} (Q : Sl → Prop) : ∀ {xs : List O} {τ : Sl}, (∀ x ∈ xs, ∀ τ, Q τ → ∃ τ1 τ', g x τ = some τ1 ∧ b τ1 = some (.nx τ') ∧ Q τ') → Q τ → ∃ τ', forD g b xs τ = some (.nx τ') ∧ Q τ'
  | [], τ, _, q => ⟨τ, rfl, q⟩
  | x :: xs, τ, h, q => by
    obtain ⟨τ1, τ', h1, h2, q'⟩ := h x List.mem_cons_self τ q
    obtain ⟨τ2, h3, q2⟩ := forD_inv Q (fun y hy => h y (List.mem_cons_of_mem _ hy)) q'
    refine ⟨τ2, ?_, q2⟩
    unfold forD
    rw [h1]
    show (match b τ1 with | some (Fl.nx τ') => forD g b xs τ' | some (.ct τ') => forD g b xs τ' | some (.bk τ') => some (.nx τ') | some (.rt o) => some (.rt o) | none => none) = _
    rw [h2]
    exact h3
theorem forD_cons {g : TGd} {b : SS} {x : O} {xs : List O} {τ τ1 τ' : Sl} (h1 : g x τ = some τ1) (h2 : b τ1 = some (.nx τ')) : forD g b (x :: xs) τ = forD g b xs τ' := by
  show ((g x τ).bind fun τ1 => match b τ1 with | some (Fl.nx τ') => forD g b xs τ' | some (.ct τ') => forD g b xs τ' | some (.bk τ') => some (.nx τ') | some (.rt o) => some (.rt o) | none => none) = _
  rw [h1]
  show (match b τ1 with | some (Fl.nx τ') => forD g b xs τ' | some (.ct τ') => forD g b xs τ' | some (.bk τ') => some (.nx τ') | some (.rt o) => some (.rt o) | none => none) = _
  rw [h2]
theorem forD_nil {g : TGd} {b : SS} {τ : Sl} : forD g b [] τ = some (.nx τ) := rfl
/-- while, by an invariant and a measure -/
theorem sWhl_inv {c : ST} {b : SS} (Q : Sl → Prop) (μ : Sl → Nat) (h : ∀ τ, Q τ → (c τ = some false) ∨ (c τ = some true ∧ ∃ τ', b τ = some (.nx τ') ∧ Q τ' ∧ μ τ' < μ τ)) : ∀ (n : Nat) {τ : Sl}, μ τ ≤ n → Q τ → ∃ τ', sWhl c b τ = some (.nx τ') ∧ Q τ' ∧ c τ' = some false := by
  intro n
  induction n with
  | zero =>
    intro τ hn q
    rcases h τ q with h1 | ⟨h1, τ', h2, q', hm⟩
    · exact ⟨τ, sWhl_end h1, q, h1⟩
    · omega
  | succ n ih =>
    intro τ hn q
    rcases h τ q with h1 | ⟨h1, τ', h2, q', hm⟩
    · exact ⟨τ, sWhl_end h1, q, h1⟩
    · obtain ⟨τ2, h3, h4⟩ := ih (by omega) q'
      exact ⟨τ2, sWhl_turn h1 h2 h3, h4⟩
/-! ### a map by a call, within a comprehension -/
theorem lcD_map {g : TGd} {e : SE} {h : O → O} : ∀ {xs : List O} {τ : Sl}, (∀ x ∈ xs, ∃ τ1, g x τ = some τ1 ∧ e τ1 = some (h x)) → lcD g tY e xs τ = some (xs.map h)
  | [], _, _ => rfl
  | x :: xs, τ, H => by
    obtain ⟨τ1, h1, h2⟩ := H x List.mem_cons_self
    unfold lcD
    rw [h1]
    simp only [Option.bind_some, tY, if_true, h2]
    rw [lcD_map fun y hy => H y (List.mem_cons_of_mem _ hy)]
    rfl
theorem eqos_ints : ∀ (L M : List Int), eqos (L.map O.int) (M.map O.int) = decide (L = M)
  | [], [] => rfl
  | [], _ :: _ => rfl
  | _ :: _, [] => rfl
  | a :: L, b :: M => by
    show (eqo (.int a) (.int b) && eqos (L.map O.int) (M.map O.int)) = _
    rw [eqos_ints L M]
    show ((a == b) && _) = _
    by_cases h : a = b
    · subst h
      by_cases h' : L = M
      · subst h'; simp
      · simp [h']
    · simp [h]
end Dv
namespace Dv
/-! ### good data -/
def gd : Nat → O → Bool
  | _, .non => true
  | _, .bl _ => true
  | _, .int _ => true
  | _, .str x => strOkD x
  | n + 1, .tup xs => decide (xs.length ≤ sLine) && xs.all (gd n)
  | n + 1, .lst _ xs => decide (xs.length ≤ sLine) && xs.all (gd n)
  | _, _ => false
theorem gd_sh : ∀ {n m : Nat} {x : O}, n ≤ m → gd n x = true → shO m x = true
  | n, m, .non, _, _ => by cases m <;> rfl
  | n, m, .bl _, _, _ => by cases m <;> rfl
  | n, m, .int _, _, _ => by cases m <;> rfl
  | n, m, .str x, _, h => by cases n <;> cases m <;> exact h
  | n + 1, m + 1, .tup xs, i, h => by
    have h' : (decide (xs.length ≤ sLine) && xs.all (gd n)) = true := h
    rw [Bool.and_eq_true, List.all_eq_true] at h'
    show xs.all (shO m) = true
    rw [List.all_eq_true]
    exact fun y hy => gd_sh (Nat.le_of_succ_le_succ i) (h'.2 y hy)
  | n + 1, m + 1, .lst _ xs, i, h => by
    have h' : (decide (xs.length ≤ sLine) && xs.all (gd n)) = true := h
    rw [Bool.and_eq_true, List.all_eq_true] at h'
    show xs.all (shO m) = true
    rw [List.all_eq_true]
    exact fun y hy => gd_sh (Nat.le_of_succ_le_succ i) (h'.2 y hy)
  | n + 1, 0, .tup xs, i, _ => by omega
  | n + 1, 0, .lst _ xs, i, _ => by omega
  | 0, _, .tup _, _, h => nomatch h
  | 0, _, .lst _ _, _, h => nomatch h
  | 0, _, .dK _ _ _, _, h => nomatch h
  | 0, _, .dT _ _ _, _, h => nomatch h
  | 0, _, .scr _, _, h => nomatch h
  | 0, _, .anc _, _, h => nomatch h
  | 0, _, .kt _, _, h => nomatch h
  | n + 1, _, .kt _, _, h => nomatch h
  | n + 1, _, .dK _ _ _, _, h => nomatch h
  | n + 1, _, .dT _ _ _, _, h => nomatch h
  | n + 1, _, .scr _, _, h => nomatch h
  | n + 1, _, .anc _, _, h => nomatch h
mutual
theorem eqo_refl : ∀ {n : Nat} {x : O}, gd n x = true → eqo x x = true
  | _, .non, _ => rfl
  | _, .bl b, _ => by show (b == b) = true; exact beq_self_eq_true b
  | _, .int b, _ => by show (b == b) = true; exact beq_self_eq_true b
  | _, .str b, _ => by show (b == b) = true; simp
  | n + 1, .tup xs, h => by
    have h' : (decide (xs.length ≤ sLine) && xs.all (gd n)) = true := h
    rw [Bool.and_eq_true] at h'
    exact eqos_refl h'.2
  | n + 1, .lst _ xs, h => by
    have h' : (decide (xs.length ≤ sLine) && xs.all (gd n)) = true := h
    rw [Bool.and_eq_true] at h'
    exact eqos_refl h'.2
  | 0, .tup _, h => nomatch h
  | 0, .lst _ _, h => nomatch h
  | 0, .dK _ _ _, h => nomatch h
  | 0, .dT _ _ _, h => nomatch h
  | 0, .scr _, h => nomatch h
  | 0, .anc _, h => nomatch h
  | 0, .kt _, h => nomatch h
  | n + 1, .kt _, h => nomatch h
  | n + 1, .dK _ _ _, h => nomatch h
  | n + 1, .dT _ _ _, h => nomatch h
  | n + 1, .scr _, h => nomatch h
  | n + 1, .anc _, h => nomatch h
theorem eqos_refl : ∀ {n : Nat} {xs : List O}, xs.all (gd n) = true → eqos xs xs = true
  | _, [], _ => rfl
  | n, x :: xs, h => by
    rw [List.all_cons, Bool.and_eq_true] at h
    show (eqo x x && eqos xs xs) = true
    rw [eqo_refl h.1, eqos_refl h.2]; rfl
end
theorem gd_frz : ∀ {n : Nat} {x : O}, gd n x = true → gd n (frz x) = true
  | n, .non, h => h
  | n, .bl _, h => h
  | n, .int _, h => h
  | n, .str _, h => h
  | n + 1, .tup xs, h => by
    have h' : (decide (xs.length ≤ sLine) && xs.all (gd n)) = true := h
    rw [Bool.and_eq_true, List.all_eq_true] at h'
    show (decide ((frzs xs).length ≤ sLine) && (frzs xs).all (gd n)) = true
    rw [frzs_eq, List.length_map, Bool.and_eq_true, List.all_eq_true]
    refine ⟨h'.1, fun y hy => ?_⟩
    obtain ⟨z, hz, rfl⟩ := List.mem_map.mp hy
    exact gd_frz (h'.2 z hz)
  | n + 1, .lst _ xs, h => by
    have h' : (decide (xs.length ≤ sLine) && xs.all (gd n)) = true := h
    rw [Bool.and_eq_true, List.all_eq_true] at h'
    show (decide ((frzs xs).length ≤ sLine) && (frzs xs).all (gd n)) = true
    rw [frzs_eq, List.length_map, Bool.and_eq_true, List.all_eq_true]
    refine ⟨h'.1, fun y hy => ?_⟩
    obtain ⟨z, hz, rfl⟩ := List.mem_map.mp hy
    exact gd_frz (h'.2 z hz)
  | 0, .tup _, h => nomatch h
  | 0, .lst _ _, h => nomatch h
  | 0, .dK _ _ _, h => nomatch h
  | 0, .dT _ _ _, h => nomatch h
  | 0, .scr _, h => nomatch h
  | 0, .anc _, h => nomatch h
  | 0, .kt _, h => nomatch h
  | n + 1, .kt _, h => nomatch h
  | n + 1, .dK _ _ _, h => nomatch h
  | n + 1, .dT _ _ _, h => nomatch h
  | n + 1, .scr _, h => nomatch h
  | n + 1, .anc _, h => nomatch h
theorem allB_true : ∀ (n : Nat), allB (List.replicate n (O.bl true)) = some (List.replicate n true)
  | 0 => rfl
  | n + 1 => by
    show ((asB (O.bl true)).bind fun b => (allB (List.replicate n (O.bl true))).bind fun bs => some (b :: bs)) = _
    rw [allB_true n]; rfl
/-- all of a map to True -/
theorem allB_map {α : Type} (L : List α) (p : α → Bool) : allB (L.map fun x => O.bl (p x)) = some (L.map p) := by
  induction L with
  | nil => rfl
  | cons a L ih =>
    show ((asB (O.bl (p a))).bind fun b => (allB (L.map fun x => O.bl (p x))).bind fun bs => some (b :: bs)) = _
    rw [ih]; rfl
end Dv
namespace Dv
theorem sh_non {n : Nat} : shO n .non = true := by cases n <;> rfl
theorem sh_bl {n : Nat} {b : Bool} : shO n (.bl b) = true := by cases n <;> rfl
theorem sh_int {n : Nat} {b : Int} : shO n (.int b) = true := by cases n <;> rfl
theorem sh_tup {xs : List O} : shO 20 (.tup xs) = xs.all (shO 19) := rfl
theorem sh_lst {o : Bool} {xs : List O} : shO 20 (.lst o xs) = xs.all (shO 19) := rfl
theorem eqo_int {a b : Int} : eqo (.int a) (.int b) = decide (a = b) := by
  show (a == b) = _
  rw [Bool.beq_eq_decide_eq]
theorem eqo_bl {a b : Bool} : eqo (.bl a) (.bl b) = (a == b) := rfl
theorem eqo_tup {a b : List O} : eqo (.tup a) (.tup b) = eqos a b := rfl
theorem eqo_lst {o p : Bool} {a b : List O} : eqo (.lst o a) (.lst p b) = eqos a b := rfl
theorem eqos_nil : eqos [] [] = true := rfl
theorem eqos_cons {a b : O} {xs ys : List O} : eqos (a :: xs) (b :: ys) = (eqo a b && eqos xs ys) := rfl
end Dv
namespace Dv
theorem beq_tt : (true == true) = true := rfl
theorem beq_ff : (false == false) = true := rfl
theorem beq_tf : (true == false) = false := rfl
theorem beq_ft : (false == true) = false := rfl
end Dv

end
section
set_option Elab.async false
set_option linter.all false
set_option maxRecDepth 100000
/-! Mz: sizes, found by the class -/
namespace Dv
/-- |x| < 2^(64 k) -/
class Sz (k : outParam Nat) (x : Int) : Prop where
  lt : x.natAbs < 2 ^ (64 * k)
theorem sz_mono {a b : Nat} {x : Int} (h : Sz a x) (i : a ≤ b) : Sz b x := ⟨Nat.lt_of_lt_of_le h.lt (Nat.pow_le_pow_right (by decide) (Nat.mul_le_mul_left _ i))⟩
theorem two_pow_add (a b : Nat) : 2 ^ (64 * (a + b)) = 2 ^ (64 * a) * 2 ^ (64 * b) := by rw [Nat.mul_add, Nat.pow_add]
theorem one_le_two_pow' (a : Nat) : 1 ≤ 2 ^ (64 * a) := Nat.pos_of_ne_zero (by simp)
theorem pow_succ64 (a : Nat) : 2 ^ (64 * a) * 2 ≤ 2 ^ (64 * (a + 1)) := by
  rw [two_pow_add]
  exact Nat.mul_le_mul_left _ (by decide)
instance (priority := 50) (n : Nat) : Sz (n.log2 / 64 + 1) (no_index (OfNat.ofNat n : Int)) := ⟨by
  show n < _
  have h : n < 2 ^ (n.log2 + 1) := Nat.lt_log2_self
  refine Nat.lt_of_lt_of_le h (Nat.pow_le_pow_right (by decide) ?_)
  omega⟩
instance {a : Nat} {x : Int} [h : Sz a x] : Sz a (-x) := ⟨by rw [Int.natAbs_neg]; exact h.lt⟩
instance {a b : Nat} {x y : Int} [h : Sz a x] [i : Sz b y] : Sz (a + b) (x * y) := ⟨by
  rw [Int.natAbs_mul, two_pow_add]
  exact Nat.mul_lt_mul'' h.lt i.lt⟩
theorem sz_max {a b : Nat} {x y : Int} (h : Sz a x) (i : Sz b y) : x.natAbs + y.natAbs < 2 ^ (64 * (max a b + 1)) := by
  have h1 := (sz_mono h (Nat.le_max_left a b)).lt
  have h2 := (sz_mono i (Nat.le_max_right a b)).lt
  have := pow_succ64 (max a b)
  omega
instance {a b : Nat} {x y : Int} [h : Sz a x] [i : Sz b y] : Sz (max a b + 1) (x + y) := ⟨by
  have := sz_max h i
  omega⟩
instance {a b : Nat} {x y : Int} [h : Sz a x] [i : Sz b y] : Sz (max a b + 1) (x - y) := ⟨by
  have := sz_max h i
  omega⟩
instance {a b : Nat} {x y : Int} {c : Prop} [Decidable c] [h : Sz a x] [i : Sz b y] : Sz (max a b) (if c then x else y) := by
  split
  · exact sz_mono h (Nat.le_max_left a b)
  · exact sz_mono i (Nat.le_max_right a b)
instance {a : Nat} {x y : Int} [h : Sz a x] : Sz (a + 1) (x / y) := ⟨by
  refine Nat.lt_of_le_of_lt (Int.natAbs_ediv_le_natAbs x y) (Nat.lt_of_lt_of_le h.lt (Nat.pow_le_pow_right (by decide) (by omega)))⟩
theorem log_of {n k : Nat} (h : n < 2 ^ (64 * k)) : n.log2 ≤ 64 * k := by
  by_cases h0 : n = 0
  · subst h0; exact Nat.zero_le _
  · exact Nat.le_of_lt ((Nat.log2_lt h0).mpr h)
theorem mulOk_sz {a b : Nat} {x y : Int} [h : Sz a x] [i : Sz b y] (s : Nat.ble (a + b) 15000 = true) : mulOk x y = true := by
  have h1 := log_of h.lt
  have h2 := log_of i.lt
  have s' := Nat.le_of_ble_eq_true s
  unfold mulOk
  exact decide_eq_true (by omega)
theorem divOk_sz {a : Nat} {x : Int} (p : 0 < x) [h : Sz a x] (s : Nat.ble a 140 = true) : divOk x = true := by
  have h1 := log_of h.lt
  have s' := Nat.le_of_ble_eq_true s
  unfold divOk
  rw [decide_eq_true p, decide_eq_true (by omega)]
  rfl
theorem sz_of {k : Nat} {x : Int} (h : x.natAbs < 2 ^ (64 * k)) : Sz k x := ⟨h⟩
theorem sz1 {x : Int} (h : -18446744073709551616 < x) (h' : x < 18446744073709551616) : Sz 1 x := ⟨by show _ < 18446744073709551616; omega⟩
theorem sz_le {a : Nat} {x y : Int} (h : Sz a y) (i : x.natAbs ≤ y.natAbs) : Sz a x := ⟨Nat.lt_of_le_of_lt i h.lt⟩
end Dv
namespace Dv
theorem cut_map {α β : Type} (f : α → β) (L : List α) (lo hi : Option Int) : cut (L.map f) lo hi = (cut L lo hi).map f := by
  unfold cut
  rw [List.length_map, ← List.map_drop, ← List.map_take]
theorem cut_from {α : Type} {L : List α} {k : Nat} : cut L (some (k : Int)) none = L.drop k := by
  unfold cut sIx
  have h : ¬ ((k : Int) < 0) := by omega
  simp only [h, if_false, Int.toNat_natCast]
  by_cases e : k ≤ L.length
  · rw [Nat.min_eq_left e, List.take_of_length_le (by rw [List.length_drop]; omega)]
  · rw [Nat.min_eq_right (by omega), List.drop_of_length_le (Nat.le_refl _), List.drop_of_length_le (by omega), List.take_nil]
theorem cut_to {α : Type} {L : List α} {k : Nat} : cut L none (some (k : Int)) = L.take k := by
  unfold cut sIx
  have h : ¬ ((k : Int) < 0) := by omega
  simp only [h, if_false, Int.toNat_natCast, List.drop_zero, Nat.sub_zero]
  by_cases e : k ≤ L.length
  · rw [Nat.min_eq_left e]
  · rw [Nat.min_eq_right (by omega), List.take_of_length_le (Nat.le_refl _), List.take_of_length_le (by omega)]
/-- bounded -/
def Cells (n : Nat) (L : List Int) : Prop := n ≤ L.length ∧ ∀ x ∈ L, 0 ≤ x ∧ x < 1000003
theorem Cells.at {n : Nat} {L : List Int} (h : Cells n L) (i : Int) (h0 : 0 ≤ i) (hi : i < n) : ∃ x, at? (L.map O.int) i = some (.int x) ∧ nth L i = x ∧ 0 ≤ x ∧ x < 1000003 :=
  ⟨_, at_ints h0 (by have := h.1; omega), rfl, h.2 _ (nth_mem h0 (by have := h.1; omega))⟩
theorem Cells.drop {n : Nat} {L : List Int} (k : Nat) (h : Cells (n + k) L) : Cells n (L.drop k) :=
  ⟨by rw [List.length_drop]; have := h.1; omega, fun x hx => h.2 x (List.mem_of_mem_drop hx)⟩
theorem Cells.mono {n m : Nat} {L : List Int} (h : Cells n L) (i : m ≤ n) : Cells m L := ⟨Nat.le_trans i h.1, h.2⟩
theorem Cells.sz {n : Nat} {L : List Int} (h : Cells n L) {x : Int} (hx : x ∈ L) : Sz 1 x := by
  have := h.2 x hx
  exact sz1 (by omega) (by omega)
end Dv
namespace Dv
/-! ### steps -/
theorem fnD_of {n m : Nat} {b : SS} {os : List O} {τ : Sl} {o : O} (hl : os.length = n) (hτ : os.map (fun o => some (frz o)) ++ List.replicate (m - n) none = τ) (h : b τ = some (.rt o)) : fnD n m b os = some o := by
  unfold fnD
  rw [if_pos hl, hτ, h]
theorem fnD_nx {n m : Nat} {b : SS} {os : List O} {τ τ' : Sl} (hl : os.length = n) (hτ : os.map (fun o => some (frz o)) ++ List.replicate (m - n) none = τ) (h : b τ = some (.nx τ')) : fnD n m b os = some .non := by
  unfold fnD
  rw [if_pos hl, hτ, h]
theorem seq_nx {a b : SS} {τ τ' : Sl} {r : Option Fl} (h : a τ = some (.nx τ')) (k : b τ' = r) : sSeq a b τ = r := by
  unfold sSeq; rw [h]; exact k
theorem seq_rt {a b : SS} {τ : Sl} {o : O} (h : a τ = some (.rt o)) : sSeq a b τ = some (.rt o) := by
  unfold sSeq; rw [h]
theorem seq_ct {a b : SS} {τ τ' : Sl} (h : a τ = some (.ct τ')) : sSeq a b τ = some (.ct τ') := by
  unfold sSeq; rw [h]
theorem seq_bk {a b : SS} {τ τ' : Sl} (h : a τ = some (.bk τ')) : sSeq a b τ = some (.bk τ') := by
  unfold sSeq; rw [h]
theorem seq_Q {a b : SS} {τ : Sl} {r : Option Fl} (Q : Sl → Prop) (h : ∃ τ', a τ = some (.nx τ') ∧ Q τ') (k : ∀ τ', Q τ' → b τ' = r) : sSeq a b τ = r := by
  obtain ⟨τ', h1, q⟩ := h
  exact seq_nx h1 (k τ' q)
theorem seq_E {a b : SS} {τ : Sl} {R : Option Fl → Prop} (Q : Sl → Prop) (h : ∃ τ', a τ = some (.nx τ') ∧ Q τ') (k : ∀ τ', Q τ' → R (b τ')) : R (sSeq a b τ) := by
  obtain ⟨τ', h1, q⟩ := h
  rw [seq_nx h1 rfl]
  exact k τ' q
theorem if_t {c : ST} {a b : SS} {τ : Sl} {r : Option Fl} (h : c τ = some true) (k : a τ = r) : sIf c a b τ = r := by
  unfold sIf; rw [h]; exact k
theorem if_f {c : ST} {a b : SS} {τ : Sl} {r : Option Fl} (h : c τ = some false) (k : b τ = r) : sIf c a b τ = r := by
  unfold sIf; rw [h]; exact k
theorem set_nx {ns : List Nat} {i : Nat} {a : SE} {τ : Sl} {o : O} (h : a τ = some o) {τ' : Sl} (k : put ns i o τ = τ') : sSet ns i a τ = some (.nx τ') := by
  unfold sSet; rw [h, Option.bind_some, k]
theorem at_2 {a b : O} : at? [a, b] 0 = some a ∧ at? [a, b] 1 = some b := ⟨rfl, rfl⟩
theorem at_20 {a b : O} : at? [a, b] 0 = some a := rfl
theorem at_21 {a b : O} : at? [a, b] 1 = some b := rfl
theorem at_30 {a b c : O} : at? [a, b, c] 0 = some a := rfl
theorem at_31 {a b c : O} : at? [a, b, c] 1 = some b := rfl
theorem at_32 {a b c : O} : at? [a, b, c] 2 = some c := rfl
theorem at_40 {a b c d : O} : at? [a, b, c, d] 0 = some a := rfl
theorem at_41 {a b c d : O} : at? [a, b, c, d] 1 = some b := rfl
theorem at_42 {a b c d : O} : at? [a, b, c, d] 2 = some c := rfl
theorem at_43 {a b c d : O} : at? [a, b, c, d] 3 = some d := rfl
theorem at_10 {a : O} : at? [a] 0 = some a := rfl
end Dv
namespace Dv
theorem forD_n {g : TGd} {b : SS} (Q : Nat → Sl → Prop) (N : Nat) : ∀ {xs : List O} {n : Nat} {τ : Sl}, n + xs.length ≤ N → (∀ x ∈ xs, ∀ n τ, n < N → Q n τ → ∃ τ1 τ', g x τ = some τ1 ∧ b τ1 = some (.nx τ') ∧ Q (n + 1) τ') → Q n τ → ∃ τ', forD g b xs τ = some (.nx τ') ∧ Q (n + xs.length) τ'
  | [], n, τ, _, _, q => ⟨τ, rfl, q⟩
  | x :: xs, n, τ, l, h, q => by
    rw [List.length_cons] at l
    obtain ⟨τ1, τ', h1, h2, q'⟩ := h x List.mem_cons_self n τ (by omega) q
    obtain ⟨τ2, h3, q2⟩ := forD_n Q N (n := n + 1) (by omega) (fun y hy => h y (List.mem_cons_of_mem _ hy)) q'
    refine ⟨τ2, by rw [forD_cons h1 h2]; exact h3, ?_⟩
    rw [List.length_cons]
    have e : n + 1 + xs.length = n + (xs.length + 1) := by omega
    rwa [← e]
theorem rng4 : rngL 0 (Int.toNat 4) = [O.int 0, .int 1, .int 2, .int 3] := rfl
/-- a for over the first n numbers -/
theorem mem_rng {x : O} : ∀ {n : Nat} {lo : Int}, x ∈ rngL lo n → ∃ k : Int, x = .int k ∧ lo ≤ k ∧ k < lo + n
  | 0, lo, h => nomatch h
  | n + 1, lo, h => by
    rcases List.mem_cons.mp h with h | h
    · exact ⟨lo, h, Int.le_refl _, by omega⟩
    · obtain ⟨k, e, h1, h2⟩ := mem_rng h
      exact ⟨k, e, by omega, by omega⟩
theorem len_rng : ∀ (n : Nat) (lo : Int), (rngL lo n).length = n
  | 0, _ => rfl
  | n + 1, lo => by show (rngL (lo + 1) n).length + 1 = n + 1; rw [len_rng n]
/-- three numbers of size k -/
def IsS (k : Nat) (o : O) : Prop := ∃ x y w : Int, o = .tup [.int x, .int y, .int w] ∧ Sz k x ∧ Sz k y ∧ Sz k w
theorem IsS.flat {k : Nat} {o : O} (h : IsS k o) : Dv.flat o = true := by
  obtain ⟨x, y, w, rfl, _⟩ := h
  rfl
theorem frzs_S {k : Nat} {sp : List O} (h : ∀ s ∈ sp, IsS k s) : frzs sp = sp := frzs_flat' fun s hs => (h s hs).flat
theorem cleans_S {k : Nat} {sp : List O} (h : ∀ s ∈ sp, IsS k s) : cleans sp = true := cleans_flat fun s hs => (h s hs).flat
theorem lt_line {n : Nat} (h : n ≤ 100000) : (n < sLine) = True := eq_true (Nat.lt_of_le_of_lt h (by decide))
theorem mem_app {α : Type} {P : α → Prop} {L : List α} {x : α} (h : ∀ y ∈ L, P y) (hx : P x) : ∀ y ∈ L ++ [x], P y := fun y hy => by
  rcases List.mem_append.mp hy with hy | hy
  · exact h y hy
  · rw [List.mem_singleton.mp hy]; exact hx
end Dv
namespace Dv
/-- whether a side of three numbers holds a place -/
def holdO (x y w : Int) : O → Bool
  | .tup [.int a, .int b, .int c] => decide (a * x + b * y ≤ c * w)
  | _ => false
theorem all_id {α : Type} (L : List α) (p : α → Bool) : (L.map p).all id = L.all p := by
  rw [List.all_map]; rfl
theorem cut_t2 {a b c : O} : cut [a, b, c] none (some 2) = [a, b] := rfl
end Dv

end
section
set_option Elab.async false
set_option linter.all false
set_option maxRecDepth 100000
/-! Ms: lists of triples, sorted lists -/
namespace Dv
abbrev S3 := Int × Int × Int
def sO (p : S3) : O := .tup [.int p.1, .int p.2.1, .int p.2.2]
theorem sO_flat (p : S3) : flat (sO p) = true := rfl
theorem mem_sO {L : List S3} {x : O} (h : x ∈ L.map sO) : ∃ p ∈ L, x = sO p := by
  obtain ⟨p, h1, h2⟩ := List.mem_map.mp h
  exact ⟨p, h1, h2.symm⟩
theorem frz_sO (p : S3) : frz (sO p) = sO p := rfl
theorem clean_sO (p : S3) : clean (sO p) = true := rfl
theorem frzs_sO (L : List S3) : frzs (L.map sO) = L.map sO := frzs_flat' fun x h => by obtain ⟨p, _, rfl⟩ := mem_sO h; rfl
theorem cleans_sO (L : List S3) : cleans (L.map sO) = true := cleans_flat fun x h => by obtain ⟨p, _, rfl⟩ := mem_sO h; rfl
theorem flats_sO (L : List S3) : flats (L.map sO) = true := by
  rw [flats_eq, List.all_eq_true]
  exact fun x h => by obtain ⟨p, _, rfl⟩ := mem_sO h; rfl
theorem len_sO (L : List S3) : (L.map sO).length = L.length := List.length_map ..
theorem app_sO (L : List S3) (p : S3) : L.map sO ++ [sO p] = (L ++ [p]).map sO := by rw [List.map_append]; rfl
theorem at_nat {α : Type} {L : List α} {i : Nat} {x : α} (h : L[i]? = some x) : at? L (i : Int) = some x := by
  unfold at?
  rw [if_pos (by omega), Int.toNat_natCast]
  exact h
theorem at_sO {L : List S3} {i : Nat} {p : S3} (h : L[i]? = some p) : at? (L.map sO) (i : Int) = some (sO p) := at_nat (by rw [List.getElem?_map, h]; rfl)
theorem sO_0 (p : S3) : at? [O.int p.1, .int p.2.1, .int p.2.2] 0 = some (.int p.1) := rfl
/-- of size k -/
structure Bk (k : Nat) (p : S3) : Prop where
  x : Sz k p.1
  y : Sz k p.2.1
  w : Sz k p.2.2
theorem Bk.mono {k l : Nat} {p : S3} (h : Bk k p) (i : k ≤ l) : Bk l p := ⟨sz_mono h.x i, sz_mono h.y i, sz_mono h.w i⟩
/-! ### sorted -/
theorem leI_trans (a b c : List Int) (h : leI a b = true) (i : leI b c = true) : leI a c = true := by
  unfold leI at *
  exact decide_eq_true (List.le_trans (of_decide_eq_true h) (of_decide_eq_true i))
theorem leI_total (a b : List Int) : (leI a b || leI b a) = true := by
  unfold leI
  rw [Bool.or_eq_true, decide_eq_true_eq, decide_eq_true_eq]
  exact List.le_total a b
theorem leI_anti {a b : List Int} (h : leI a b = true) (i : leI b a = true) : a = b := by
  unfold leI at *
  exact List.le_antisymm (of_decide_eq_true h) (of_decide_eq_true i)
theorem sort_perm {a b : List (List Int)} (h : a.Perm b) : a.mergeSort leI = b.mergeSort leI :=
  ((List.mergeSort_perm a leI).trans (h.trans (List.mergeSort_perm b leI).symm)).eq_of_pairwise (fun _ _ _ _ h1 h2 => leI_anti h1 h2) (List.pairwise_mergeSort leI_trans leI_total a) (List.pairwise_mergeSort leI_trans leI_total b)
def sI (p : S3) : List Int := [p.1, p.2.1, p.2.2]
theorem tupI_sI (p : S3) : tupI (sI p) = sO p := rfl
theorem asTs_sO : ∀ (L : List S3), asTs (L.map sO) = some (L.map sI)
  | [] => rfl
  | p :: L => by
    show (asT (sO p)).bind (fun t => (asTs (L.map sO)).bind fun ts => some (t :: ts)) = _
    rw [asTs_sO L]; rfl
/-- sorted(xs) of triples -/
def srt (L : List S3) : List O := ((L.map sI).mergeSort leI).map tupI
theorem sortE_sO (o : Bool) (L : List S3) : sortE [.lst o (L.map sO)] = some (.lst true (srt L)) := by
  show (asTs (L.map sO)).bind (fun bs => some (O.lst true ((bs.mergeSort leI).map tupI))) = _
  rw [asTs_sO]; rfl
theorem srt_perm {L M : List S3} (h : L.Perm M) : srt L = srt M := by
  unfold srt
  rw [sort_perm (h.map sI)]
theorem all_map' {α β : Type} (f : α → β) (p : β → Bool) (L : List α) : (L.map f).all p = L.all (p ∘ f) := List.all_map
/-- a list of tuples of ints is like itself -/
theorem tupI_gd (n : Nat) (ns : List Int) (h : ns.length ≤ sLine) : gd (n + 1) (tupI ns) = true := by
  show (decide ((ns.map O.int).length ≤ sLine) && (ns.map O.int).all (gd n)) = true
  rw [List.length_map, Bool.and_eq_true, List.all_eq_true]
  refine ⟨decide_eq_true h, fun x hx => ?_⟩
  obtain ⟨i, _, rfl⟩ := List.mem_map.mp hx
  cases n <;> rfl
theorem srt_gd (L : List S3) (h : L.length ≤ sLine) (o : Bool) : gd 11 (.lst o (srt L)) = true := by
  show (decide ((srt L).length ≤ sLine) && (srt L).all (gd 10)) = true
  rw [Bool.and_eq_true, List.all_eq_true]
  refine ⟨decide_eq_true ?_, fun x hx => ?_⟩
  · unfold srt
    rw [List.length_map, List.length_mergeSort, List.length_map]; exact h
  · obtain ⟨ns, h1, rfl⟩ := List.mem_map.mp hx
    have := (List.mergeSort_perm (L.map sI) leI).mem_iff.mp h1
    obtain ⟨p, _, rfl⟩ := List.mem_map.mp this
    exact tupI_gd 9 _ (show 3 ≤ sLine by decide)
theorem sO_gd (L : List S3) (h : L.length ≤ sLine) (o : Bool) : gd 11 (.lst o (L.map sO)) = true := by
  show (decide ((L.map sO).length ≤ sLine) && (L.map sO).all (gd 10)) = true
  rw [Bool.and_eq_true, List.all_eq_true, List.length_map]
  refine ⟨decide_eq_true h, fun x hx => ?_⟩
  obtain ⟨p, _, rfl⟩ := mem_sO hx
  rfl
theorem neD_self {o p : Bool} {xs : List O} (h : gd 11 (.lst o xs) = true) : neD (.lst o xs) (.lst p xs) = some (.bl false) := by
  have h1 : shO 20 (.lst o xs) = true := gd_sh (by decide) h
  have h2 : shO 20 (.lst p xs) = true := h1
  have h3 : eqo (.lst o xs) (.lst o xs) = true := eqo_refl h
  have h4 : eqo (.lst o xs) (.lst p xs) = true := h3
  unfold neD
  rw [h1, h2, h4]; rfl
theorem eqD_self {o p : Bool} {xs : List O} (h : gd 11 (.lst o xs) = true) : eqD (.lst o xs) (.lst p xs) = some (.bl true) := by
  have h1 : shO 20 (.lst o xs) = true := gd_sh (by decide) h
  have h2 : shO 20 (.lst p xs) = true := h1
  have h3 : eqo (.lst o xs) (.lst o xs) = true := eqo_refl h
  have h4 : eqo (.lst o xs) (.lst p xs) = true := h3
  unfold eqD
  rw [h1, h2, h4]; rfl
/-! ### insertion -/
section
variable {α : Type} (lt : α → α → Bool)
/-- p into its place: behind all that p is not ahead of, as long as they come -/
def insS (A : List α) (p : α) : List α := A.takeWhile (fun q => !lt p q) ++ [p] ++ A.dropWhile (fun q => !lt p q)
def insA (A L : List α) : List α := L.foldl (insS lt) A
theorem insS_perm (A : List α) (p : α) : (insS lt A p).Perm (A ++ [p]) := by
  unfold insS
  have e := List.takeWhile_append_dropWhile (p := fun q => !lt p q) (l := A)
  have h : (A.takeWhile (fun q => !lt p q) ++ [p] ++ A.dropWhile (fun q => !lt p q)).Perm (A.takeWhile (fun q => !lt p q) ++ (A.dropWhile (fun q => !lt p q) ++ [p])) := by
    rw [List.append_assoc]
    exact List.Perm.append_left _ List.perm_append_comm
  rw [← List.append_assoc, e] at h
  exact h
theorem insA_perm : ∀ (L A : List α), (insA lt A L).Perm (A ++ L)
  | [], A => by rw [List.append_nil]; exact List.Perm.refl _
  | p :: L, A => by
    show (insA lt (insS lt A p) L).Perm _
    refine (insA_perm L _).trans ?_
    have := (insS_perm lt A p).append_right L
    rwa [List.append_assoc] at this
/-- no one is ahead of the one before -/
def Adj : List α → Prop
  | [] => True
  | [_] => True
  | a :: b :: r => lt b a = false ∧ Adj (b :: r)
theorem Adj.insS (as : ∀ a b, lt a b = true → lt b a = false) : ∀ {A : List α} {p : α}, Adj lt A → Adj lt (insS lt A p)
  | [], p, _ => trivial
  | a :: A, p, h => by
    unfold Dv.insS
    by_cases c : lt p a = true
    · rw [List.takeWhile_cons_of_neg (by simp [c]), List.dropWhile_cons_of_neg (by simp [c])]
      exact ⟨as _ _ c, h⟩
    · have c' : lt p a = false := by cases e : lt p a <;> simp_all
      rw [List.takeWhile_cons_of_pos (by simp [c']), List.dropWhile_cons_of_pos (by simp [c'])]
      have h2 : Adj lt A := by
        cases A with
        | nil => trivial
        | cons b A => exact h.2
      have ih := Adj.insS as (p := p) h2
      show Adj lt (a :: Dv.insS lt A p)
      cases A with
      | nil => exact ⟨c', trivial⟩
      | cons b A =>
        unfold Dv.insS at ih ⊢
        by_cases d : lt p b = true
        · rw [List.takeWhile_cons_of_neg (by simp [d]), List.dropWhile_cons_of_neg (by simp [d])] at ih ⊢
          exact ⟨c', ih⟩
        · have d' : lt p b = false := by cases e : lt p b <;> simp_all
          rw [List.takeWhile_cons_of_pos (by simp [d']), List.dropWhile_cons_of_pos (by simp [d'])] at ih ⊢
          exact ⟨h.1, ih⟩
theorem Adj.insA (as : ∀ a b, lt a b = true → lt b a = false) : ∀ (L : List α) {A : List α}, Adj lt A → Adj lt (insA lt A L)
  | [], _, h => h
  | _ :: L, _, h => Adj.insA as L (h.insS lt as)
theorem Adj.zip : ∀ {L : List α}, Adj lt L → ∀ p ∈ L.zip L.tail, lt p.2 p.1 = false
  | [], _, p, hp => nomatch hp
  | [_], _, p, hp => nomatch hp
  | a :: b :: r, h, p, hp => by
    rcases List.mem_cons.mp (show p ∈ (a, b) :: (b :: r).zip r from hp) with e | hp
    · rw [e]; exact h.1
    · exact Adj.zip h.2 p hp
end
/-- which of two spots is less -/
def aheadB (p q : S3) : Bool := if p.1 * q.2.2 = q.1 * p.2.2 then decide (p.2.1 * q.2.2 < q.2.1 * p.2.2) else decide (p.1 * q.2.2 < q.1 * p.2.2)
theorem ahead_asym (p q : S3) (h : aheadB p q = true) : aheadB q p = false := by
  unfold aheadB at *
  by_cases c : p.1 * q.2.2 = q.1 * p.2.2
  · rw [if_pos c, decide_eq_true_eq] at h
    rw [if_pos c.symm]
    exact decide_eq_false (by omega)
  · rw [if_neg c, decide_eq_true_eq] at h
    rw [if_neg (fun e => c e.symm)]
    exact decide_eq_false (by omega)
end Dv
namespace Dv
theorem take_tw {α : Type} (p : α → Bool) : ∀ (L : List α), L.take (L.takeWhile p).length = L.takeWhile p
  | [] => rfl
  | a :: L => by
    by_cases h : p a = true
    · rw [List.takeWhile_cons_of_pos h, List.length_cons, List.take_succ_cons, take_tw p L]
    · rw [List.takeWhile_cons_of_neg h]; rfl
theorem drop_tw {α : Type} (p : α → Bool) : ∀ (L : List α), L.drop (L.takeWhile p).length = L.dropWhile p
  | [] => rfl
  | a :: L => by
    by_cases h : p a = true
    · rw [List.takeWhile_cons_of_pos h, List.length_cons, List.drop_succ_cons, drop_tw p L, List.dropWhile_cons_of_pos h]
    · rw [List.takeWhile_cons_of_neg h, List.dropWhile_cons_of_neg h]; rfl
theorem sMet_ok {h : List O → List O → Option (List O)} {i : Nat} {r : SEs} {τ : Sl} {os xs ys : List O} (hr : r τ = some os) (hx : τ[i]? = some (some (.lst true xs))) (fx : flats xs = true) (fo : flats os = true) (hy : h xs os = some ys) :
    sMet h i r τ = some (.nx (τ.set i (some (.lst true ys)))) := by
  unfold sMet
  rw [hr, Option.bind_some, hx]
  simp only [fx, fo, and_self, if_true, hy, Option.bind_some]
theorem mIns_ok {xs : List O} {j : Nat} {y : O} (hj : j ≤ 100000) (hl : xs.length < sLine) : mIns xs [.int j, y] = some (xs.take j ++ [y] ++ xs.drop j) := by
  have h0 : (0 : Int) ≤ (j : Int) := by omega
  have h1 : (j : Int) < 2 ^ 62 := Int.lt_of_le_of_lt (show (j : Int) ≤ 100000 by omega) (by decide)
  have c : (0 : Int) ≤ (j : Int) ∧ (j : Int) < 2 ^ 62 ∧ xs.length < sLine := ⟨h0, h1, hl⟩
  simp only [mIns, if_pos c, Int.toNat_natCast]
theorem insS_map {A : List S3} {p : S3} (lt : S3 → S3 → Bool) : (A.map sO).take (A.takeWhile fun q => !lt p q).length ++ [sO p] ++ (A.map sO).drop (A.takeWhile fun q => !lt p q).length = (insS lt A p).map sO := by
  rw [← List.map_take, ← List.map_drop, take_tw, drop_tw]
  unfold insS
  rw [List.map_append, List.map_append]; rfl
theorem len_tw {α : Type} (p : α → Bool) (L : List α) : (L.takeWhile p).length ≤ L.length := (List.takeWhile_sublist _).length_le
theorem insS_len {A : List S3} {p : S3} (lt : S3 → S3 → Bool) : (insS lt A p).length = A.length + 1 := by
  rw [(insS_perm lt A p).length_eq, List.length_append]; rfl
end Dv
namespace Dv
theorem forD_rngAux {g : TGd} {b : SS} (Q : Nat → Sl → Prop) (N : Nat) (h : ∀ n τ, n < N → Q n τ → ∃ τ1 τ', g (.int n) τ = some τ1 ∧ b τ1 = some (.nx τ') ∧ Q (n + 1) τ') : ∀ (k n : Nat) (τ : Sl), n + k = N → Q n τ → ∃ τ', forD g b (rngL n k) τ = some (.nx τ') ∧ Q N τ'
  | 0, n, τ, e, q => by
    have e' : n = N := by omega
    subst e'
    exact ⟨τ, rfl, q⟩
  | k + 1, n, τ, e, q => by
    obtain ⟨τ1, τ', h1, h2, q'⟩ := h n τ (by omega) q
    obtain ⟨τ2, h3, q2⟩ := forD_rngAux Q N h k (n + 1) τ' (by omega) q'
    refine ⟨τ2, ?_, q2⟩
    show forD g b (.int n :: rngL (n + 1) k) τ = _
    rw [forD_cons h1 h2]
    exact h3
theorem forD_rng {g : TGd} {b : SS} (Q : Nat → Sl → Prop) {N : Nat} {τ : Sl} (h : ∀ n τ, n < N → Q n τ → ∃ τ1 τ', g (.int n) τ = some τ1 ∧ b τ1 = some (.nx τ') ∧ Q (n + 1) τ') (q : Q 0 τ) : ∃ τ', forD g b (rngL 0 N) τ = some (.nx τ') ∧ Q N τ' :=
  forD_rngAux Q N h N 0 τ (by omega) q
theorem rng_ok {j : Int} (h0 : 0 ≤ j) (h1 : j ≤ 1000000) : (-(2 ^ 62) ≤ j ∧ j < 2 ^ 62) = True :=
  eq_true ⟨Int.le_trans (by decide) h0, Int.lt_of_le_of_lt h1 (by decide)⟩
def prO (p : S3 × S3) : O := .tup [sO p.1, sO p.2]
theorem zipL_sO : ∀ (L M : List S3), zipL (L.map sO) (M.map sO) = (L.zip M).map prO
  | [], _ => rfl
  | _ :: _, [] => rfl
  | a :: L, b :: M => by
    show O.tup [sO a, sO b] :: zipL (L.map sO) (M.map sO) = _
    rw [zipL_sO L M]; rfl
theorem frzs_prO (L : List (S3 × S3)) : frzs (L.map prO) = L.map prO := frzs_flat' fun x h => by
  obtain ⟨p, _, rfl⟩ := List.mem_map.mp h
  rfl
theorem tail_cut (L : List S3) : cut (L.map sO) (some 1) none = L.tail.map sO := by
  rw [cut_map]
  have := cut_from (L := L) (k := 1)
  rw [show ((1 : Nat) : Int) = 1 from rfl] at this
  rw [this, List.drop_one]
theorem take_cut (L : List S3) (k : Nat) : cut (L.map sO) none (some (k : Int)) = (L.take k).map sO := by rw [cut_map, cut_to]
theorem allB_false : ∀ (n : Nat), allB (List.replicate n (O.bl false)) = some (List.replicate n false)
  | 0 => rfl
  | n + 1 => by
    show ((asB (O.bl false)).bind fun b => (allB (List.replicate n (O.bl false))).bind fun bs => some (b :: bs)) = _
    rw [allB_false n]; rfl
theorem any_rep (n : Nat) : (List.replicate n false).any id = false := by
  induction n with
  | zero => rfl
  | succ n ih => rw [List.replicate_succ, List.any_cons, ih]; rfl
theorem all_rep (n : Nat) : (List.replicate n true).all id = true := by
  induction n with
  | zero => rfl
  | succ n ih => rw [List.replicate_succ, List.all_cons, ih]; rfl
theorem map_const_rep {α β : Type} (L : List α) (b : β) : (L.map fun _ => b) = List.replicate L.length b := by
  induction L with
  | nil => rfl
  | cons a L ih => rw [List.map_cons, ih]; rfl
end Dv
namespace Dv
theorem frzs_rng (lo : Int) (n : Nat) : frzs (rngL lo n) = rngL lo n := frzs_flat' fun x h => by
  obtain ⟨k, rfl, _⟩ := mem_rng h
  rfl
end Dv

end
section
set_option Elab.async false
set_option linter.all false
set_option maxRecDepth 100000
/-! Mc: dicts of spots, pairs of a list -/
namespace Dv
def kS (p : S3) : List Key := [.inl p.1, .inl p.2.1, .inl p.2.2]
theorem kS_inj {p q : S3} (h : kS p = kS q) : p = q := by
  obtain ⟨a, b, c⟩ := p
  obtain ⟨d, e, f⟩ := q
  unfold kS at h
  simp only [List.cons.injEq, Sum.inl.injEq, and_true] at h
  obtain ⟨rfl, rfl, rfl⟩ := h
  rfl
theorem keyT_kS (p : S3) : keyT (kS p) = sO p := rfl
theorem keyL_sO (p : S3) : keyL [.int p.1, .int p.2.1, .int p.2.2] = some (kS p) := rfl
/-- p, if it is new, at the end -/
def addN (D : List S3) (p : S3) : List S3 := if p ∈ D then D else D ++ [p]
def addA (D L : List S3) : List S3 := L.foldl addN D
def tru (n : Nat) : List O := List.replicate n (.bl true)
theorem mem_kS {D : List S3} {p : S3} : ((D.map kS).any fun k' => decide (k' = kS p)) = decide (p ∈ D) := by
  rw [List.any_map]
  by_cases h : p ∈ D
  · rw [decide_eq_true h, List.any_eq_true]
    exact ⟨p, h, by simp⟩
  · rw [decide_eq_false h, List.any_eq_false]
    intro q hq e
    exact h (kS_inj (of_decide_eq_true e) ▸ hq)
theorem dput_kS (D : List S3) (p : S3) : dput (D.map kS) (tru D.length) (kS p) (.bl true) = ((addN D p).map kS, tru (addN D p).length) := by
  unfold dput addN
  rw [mem_kS]
  by_cases h : p ∈ D
  · rw [if_pos (by rw [decide_eq_true h]), if_pos h]
    congr 1
    unfold tru
    rw [List.eq_replicate_iff]
    refine ⟨by rw [List.length_zipWith, List.length_map, List.length_replicate, Nat.min_self], fun b hb => ?_⟩
    obtain ⟨i, hi⟩ := List.getElem?_of_mem hb
    rw [List.getElem?_zipWith] at hi
    split at hi
    · rename_i x y hx hy
      have hy' := List.eq_of_mem_replicate (List.mem_of_getElem? hy)
      cases hi
      rw [hy']
      split <;> rfl
    · cases hi
  · rw [if_neg (by rw [decide_eq_false h]; exact Bool.false_ne_true), if_neg h, List.map_append, List.length_append]
    unfold tru
    rw [show D.length + [p].length = D.length + 1 from rfl, List.replicate_succ']
    rfl
theorem addN_len (D : List S3) (p : S3) : (addN D p).length ≤ D.length + 1 := by
  unfold addN
  split
  · omega
  · rw [List.length_append]; exact Nat.le_refl _
theorem addA_len : ∀ (L D : List S3), (addA D L).length ≤ D.length + L.length
  | [], D => Nat.le_refl _
  | p :: L, D => by
    have := addA_len L (addN D p)
    have h2 := addN_len D p
    show (addA (addN D p) L).length ≤ _
    rw [List.length_cons]
    omega
theorem addN_nodup {D : List S3} {p : S3} (h : D.Nodup) : (addN D p).Nodup := by
  unfold addN
  split
  · exact h
  · rename_i hn
    rw [List.nodup_append]
    exact ⟨h, by simp, fun a ha b hb => by rw [List.mem_singleton.mp hb]; exact fun e => hn (e ▸ ha)⟩
theorem addA_nodup : ∀ (L : List S3) {D : List S3}, D.Nodup → (addA D L).Nodup
  | [], _, h => h
  | p :: L, D, h => addA_nodup L (addN_nodup h)
theorem addN_mem {D : List S3} {p q : S3} : q ∈ addN D p ↔ q ∈ D ∨ q = p := by
  unfold addN
  split
  · rename_i h
    exact ⟨Or.inl, fun e => e.elim id fun e => e ▸ h⟩
  · rw [List.mem_append, List.mem_singleton]
theorem addA_mem : ∀ (L : List S3) {D : List S3} {q : S3}, q ∈ addA D L ↔ q ∈ D ∨ q ∈ L
  | [], D, q => by show q ∈ D ↔ _; simp
  | p :: L, D, q => by
    show q ∈ addA (addN D p) L ↔ _
    rw [addA_mem L, addN_mem, List.mem_cons]
    constructor
    · rintro ((h | h) | h)
      · exact .inl h
      · exact .inr (.inl h)
      · exact .inr (.inr h)
    · rintro (h | h | h)
      · exact .inl (.inl h)
      · exact .inl (.inr h)
      · exact .inr h
theorem addN_filter (f : S3 → Bool) (D : List S3) (p : S3) : (addN D p).filter f = if f p then addN (D.filter f) p else D.filter f := by
  unfold addN
  by_cases h : p ∈ D
  · rw [if_pos h]
    by_cases c : f p = true
    · rw [if_pos c, if_pos (List.mem_filter.mpr ⟨h, c⟩)]
    · rw [if_neg c]
  · rw [if_neg h, List.filter_append]
    by_cases c : f p = true
    · rw [if_pos c, if_neg (fun e => h (List.mem_filter.mp e).1), List.filter_cons_of_pos c]; rfl
    · rw [if_neg c, List.filter_cons_of_neg c]; simp
theorem addA_filter (f : S3 → Bool) : ∀ (L D : List S3), (addA D L).filter f = addA (D.filter f) (L.filter f)
  | [], D => rfl
  | p :: L, D => by
    show (addA (addN D p) L).filter f = _
    rw [addA_filter f L, addN_filter]
    by_cases c : f p = true
    · rw [if_pos c, List.filter_cons_of_pos c]; rfl
    · rw [if_neg c, List.filter_cons_of_neg c]
/-- the first two numbers are not both nought -/
def Nz (s : S3) : Prop := s.1 ≠ 0 ∨ s.2.1 ≠ 0
/-- each with each later one -/
def prs : List S3 → List (S3 × S3)
  | [] => []
  | a :: r => r.map (fun b => (a, b)) ++ prs r
theorem mem_prs : ∀ {L : List S3} {p : S3 × S3}, p ∈ prs L → p.1 ∈ L ∧ p.2 ∈ L
  | [], _, h => nomatch h
  | a :: r, p, h => by
    rcases List.mem_append.mp h with h | h
    · obtain ⟨b, hb, rfl⟩ := List.mem_map.mp h
      exact ⟨List.mem_cons_self, List.mem_cons_of_mem _ hb⟩
    · exact ⟨List.mem_cons_of_mem _ (mem_prs h).1, List.mem_cons_of_mem _ (mem_prs h).2⟩
theorem prs_len : ∀ L : List S3, (prs L).length ≤ L.length * L.length
  | [] => Nat.le_refl _
  | a :: r => by
    show (r.map (fun b => (a, b)) ++ prs r).length ≤ _
    rw [List.length_append, List.length_map, List.length_cons]
    have := prs_len r
    have e : (r.length + 1) * (r.length + 1) = r.length * r.length + 2 * r.length + 1 := by grind
    omega
theorem listE_dT (o : Bool) (D : List S3) (vs : List O) : listE [.dT o (D.map kS) vs] = some (.lst true (D.map sO)) := by
  show some (O.lst true ((D.map kS).map keyT)) = _
  rw [List.map_map]; rfl
theorem sDput_ok {i : Nat} {k v : SE} {τ : Sl} {D : List S3} {p : S3} (hv : v τ = some (.bl true)) (hk : k τ = some (sO p)) (hx : τ[i]? = some (some (.dT true (D.map kS) (tru D.length)))) (hl : D.length < sLine) :
    sDput i k v τ = some (.nx (τ.set i (some (.dT true ((addN D p).map kS) (tru (addN D p).length))))) := by
  have ft : flats (tru D.length) = true := by
    rw [flats_eq, List.all_eq_true]
    intro x hx
    rw [List.eq_of_mem_replicate hx]; rfl
  have c : flat (O.bl true) = true ∧ flats (tru D.length) = true ∧ (D.map kS).length = (tru D.length).length ∧ (D.map kS).length < sLine :=
    ⟨rfl, ft, by rw [List.length_map]; exact List.length_replicate.symm, by rw [List.length_map]; exact hl⟩
  unfold sDput
  rw [hv, Option.bind_some, hk, Option.bind_some, hx]
  show (if _ then _ else _) = _
  rw [if_pos c, keyL_sO, Option.bind_some, dput_kS]
theorem tru_frzs (n : Nat) : frzs (tru n) = tru n := frzs_flat' fun x h => by rw [List.eq_of_mem_replicate h]; rfl
/-- a comprehension of triples -/
theorem lcD_ex {g : TGd} {e : SE} {P : S3 → Prop} : ∀ {xs : List O} {τ : Sl}, (∀ x ∈ xs, ∃ τ1 s, g x τ = some τ1 ∧ e τ1 = some (sO s) ∧ P s) → ∃ S : List S3, lcD g tY e xs τ = some (S.map sO) ∧ (∀ s ∈ S, P s) ∧ S.length = xs.length
  | [], _, _ => ⟨[], rfl, (fun s h => nomatch h), rfl⟩
  | x :: xs, τ, H => by
    obtain ⟨τ1, s, h1, h2, h3⟩ := H x List.mem_cons_self
    obtain ⟨S, h4, h5, h6⟩ := lcD_ex fun y hy => H y (List.mem_cons_of_mem _ hy)
    refine ⟨s :: S, ?_, fun q hq => ?_, by rw [List.length_cons, List.length_cons, h6]⟩
    · unfold lcD
      rw [h1]
      simp only [Option.bind_some, tY, if_true, h2, h4]
      rfl
    · rcases List.mem_cons.mp hq with h | h
      · rw [h]; exact h3
      · exact h5 q h
/-- .. with a test -/
theorem lcD_filter {g : TGd} {t : ST} {e : SE} {f : S3 → Bool} {τ : Sl} : ∀ {L : List S3}, (∀ p ∈ L, ∃ τ1, g (sO p) τ = some τ1 ∧ t τ1 = some (f p) ∧ e τ1 = some (sO p)) → lcD g t e (L.map sO) τ = some ((L.filter f).map sO)
  | [], _ => rfl
  | p :: L, H => by
    obtain ⟨τ1, h1, h2, h3⟩ := H p List.mem_cons_self
    have ih := lcD_filter fun q hq => H q (List.mem_cons_of_mem _ hq)
    rw [List.map_cons]
    unfold lcD
    rw [h1]
    simp only [Option.bind_some, h2]
    by_cases c : f p = true
    · rw [if_pos c, h3, ih, List.filter_cons_of_pos c]; rfl
    · rw [if_neg c, ih, List.filter_cons_of_neg c]
theorem zip_ne {α : Type} : ∀ {L : List α}, L.Nodup → ∀ p ∈ L.zip L.tail, p.1 ≠ p.2
  | [], _, p, hp => nomatch hp
  | [_], _, p, hp => nomatch hp
  | a :: b :: r, h, p, hp => by
    rw [List.nodup_cons] at h
    rcases List.mem_cons.mp (show p ∈ (a, b) :: (b :: r).zip r from hp) with e | hp
    · rw [e]; exact fun e : a = b => h.1 (by rw [e]; exact List.mem_cons_self)
    · exact zip_ne h.2 p hp
/-- whether a side holds a spot -/
def holdB (p s : S3) : Bool := decide (s.1 * p.1 + s.2.1 * p.2.1 ≤ s.2.2 * p.2.2)
theorem holdO_sO (p s : S3) : holdO p.1 p.2.1 p.2.2 (sO s) = holdB p s := rfl
theorem all_holdO (p : S3) (S : List S3) : (S.map sO).all (holdO p.1 p.2.1 p.2.2) = S.all (holdB p) := by rw [List.all_map]; rfl
end Dv

end
section
set_option Elab.async false
set_option linter.all false
set_option maxRecDepth 100000
/-! Mp: dicts of pairs -/
namespace Dv
abbrev S2 := Int × Int
def pO (p : S2) : O := .tup [.int p.1, .int p.2]
def kP (p : S2) : List Key := [.inl p.1, .inl p.2]
theorem kP_inj {p q : S2} (h : kP p = kP q) : p = q := by
  obtain ⟨a, b⟩ := p
  obtain ⟨c, d⟩ := q
  unfold kP at h
  simp only [List.cons.injEq, Sum.inl.injEq, and_true] at h
  obtain ⟨rfl, rfl⟩ := h
  rfl
def addP (D : List S2) (p : S2) : List S2 := if p ∈ D then D else D ++ [p]
theorem addP_len (D : List S2) (p : S2) : (addP D p).length ≤ D.length + 1 := by
  unfold addP
  split
  · omega
  · rw [List.length_append]; exact Nat.le_refl _
theorem mem_kP {D : List S2} {p : S2} : ((D.map kP).any fun k' => decide (k' = kP p)) = decide (p ∈ D) := by
  rw [List.any_map]
  by_cases h : p ∈ D
  · rw [decide_eq_true h, List.any_eq_true]
    exact ⟨p, h, by simp⟩
  · rw [decide_eq_false h, List.any_eq_false]
    intro q hq e
    exact h (kP_inj (of_decide_eq_true e) ▸ hq)
theorem dput_kP (D : List S2) (p : S2) : dput (D.map kP) (tru D.length) (kP p) (.bl true) = ((addP D p).map kP, tru (addP D p).length) := by
  unfold dput addP
  rw [mem_kP]
  by_cases h : p ∈ D
  · rw [if_pos (by rw [decide_eq_true h]), if_pos h]
    congr 1
    unfold tru
    rw [List.eq_replicate_iff]
    refine ⟨by rw [List.length_zipWith, List.length_map, List.length_replicate, Nat.min_self], fun b hb => ?_⟩
    obtain ⟨i, hi⟩ := List.getElem?_of_mem hb
    rw [List.getElem?_zipWith] at hi
    split at hi
    · rename_i x y hx hy
      have hy' := List.eq_of_mem_replicate (List.mem_of_getElem? hy)
      cases hi
      rw [hy']
      split <;> rfl
    · cases hi
  · rw [if_neg (by rw [decide_eq_false h]; exact Bool.false_ne_true), if_neg h, List.map_append, List.length_append]
    unfold tru
    rw [show D.length + [p].length = D.length + 1 from rfl, List.replicate_succ']
    rfl
theorem sDputP_ok {i : Nat} {k v : SE} {τ : Sl} {D : List S2} {p : S2} (hv : v τ = some (.bl true)) (hk : k τ = some (pO p)) (hx : τ[i]? = some (some (.dT true (D.map kP) (tru D.length)))) (hl : D.length < sLine) :
    sDput i k v τ = some (.nx (τ.set i (some (.dT true ((addP D p).map kP) (tru (addP D p).length))))) := by
  have ft : flats (tru D.length) = true := by
    rw [flats_eq, List.all_eq_true]
    intro x hx
    rw [List.eq_of_mem_replicate hx]; rfl
  have c : flat (O.bl true) = true ∧ flats (tru D.length) = true ∧ (D.map kP).length = (tru D.length).length ∧ (D.map kP).length < sLine :=
    ⟨rfl, ft, by rw [List.length_map]; exact List.length_replicate.symm, by rw [List.length_map]; exact hl⟩
  unfold sDput
  rw [hv, Option.bind_some, hk, Option.bind_some, hx]
  show (if _ then _ else _) = _
  rw [if_pos c, show keyL [.int p.1, .int p.2] = some (kP p) from rfl, Option.bind_some, dput_kP]
theorem listE_dP (o : Bool) (D : List S2) (vs : List O) : listE [.dT o (D.map kP) vs] = some (.lst true (D.map pO)) := by
  show some (O.lst true ((D.map kP).map keyT)) = _
  rw [List.map_map]; rfl
def pI2 (p : S2) : List Int := [p.1, p.2]
theorem asTs_pO : ∀ (L : List S2), asTs (L.map pO) = some (L.map pI2)
  | [] => rfl
  | p :: L => by
    show (asT (pO p)).bind (fun t => (asTs (L.map pO)).bind fun ts => some (t :: ts)) = _
    rw [asTs_pO L]; rfl
def srtP (L : List S2) : List O := ((L.map pI2).mergeSort leI).map tupI
theorem sortE_pO (o : Bool) (L : List S2) : sortE [.lst o (L.map pO)] = some (.lst true (srtP L)) := by
  show (asTs (L.map pO)).bind (fun bs => some (O.lst true ((bs.mergeSort leI).map tupI))) = _
  rw [asTs_pO]; rfl
theorem srtP_len (L : List S2) : (srtP L).length = L.length := by
  unfold srtP
  rw [List.length_map, List.length_mergeSort, List.length_map]
theorem tupI_flat (ns : List Int) : flat (tupI ns) = true := by
  show flats (ns.map O.int) = true
  rw [flats_eq, List.all_eq_true]
  intro x hx
  obtain ⟨i, _, rfl⟩ := List.mem_map.mp hx
  rfl
theorem srtP_flat (L : List S2) : ∀ x ∈ srtP L, flat x = true := fun x hx => by
  obtain ⟨ns, _, rfl⟩ := List.mem_map.mp hx
  exact tupI_flat ns
theorem frzs_srtP (L : List S2) : frzs (srtP L) = srtP L := frzs_flat' (srtP_flat L)
theorem cleans_srtP (L : List S2) : cleans (srtP L) = true := cleans_flat (srtP_flat L)
theorem frzs_pO (L : List S2) : frzs (L.map pO) = L.map pO := frzs_flat' fun x h => by
  obtain ⟨p, _, rfl⟩ := List.mem_map.mp h
  rfl
theorem srtP_gd (L : List S2) (h : L.length ≤ sLine) (o : Bool) : gd 11 (.lst o (srtP L)) = true := by
  show (decide ((srtP L).length ≤ sLine) && (srtP L).all (gd 10)) = true
  rw [Bool.and_eq_true, List.all_eq_true, srtP_len]
  refine ⟨decide_eq_true h, fun x hx => ?_⟩
  obtain ⟨ns, h1, rfl⟩ := List.mem_map.mp hx
  have := (List.mergeSort_perm (L.map pI2) leI).mem_iff.mp h1
  obtain ⟨p, _, rfl⟩ := List.mem_map.mp this
  exact tupI_gd 9 _ (show 2 ≤ sLine by decide)
/-- does a side let a direction go on -/
def goB (d : S2) (s : S3) : Bool := decide (s.1 * d.1 + s.2.1 * d.2 ≤ 0)
theorem not_flats_app (L : List S2) (p : S2) : flats (srtP L ++ [pO p]) = true := by
  rw [flats_eq, List.all_eq_true]
  intro x hx
  rcases List.mem_append.mp hx with h | h
  · exact srtP_flat L x h
  · rw [List.mem_singleton.mp h]; rfl
end Dv

end
section
set_option Elab.async false
set_option linter.all false
set_option maxRecDepth 100000
/-! Dr: the steps of Du. -/
namespace Dv
open PySem PySem.Spec L2
open PyProof.Rows hiding St
section
variable {K : PySem.W.Frag} {H : Hp} {B : Addr → Prop}
mutual
theorem Rp.flatF : ∀ {o : O} {v : V} {F : List Addr}, flat o = true → Rp K H B o v F → F = []
  | .non, _, _, _, h => h.2
  | .bl _, _, _, _, h => h.2
  | .int _, _, _, _, h => h.2
  | .str _, _, _, _, h => h.2
  | .anc _, _, _, _, h => h.2
  | .scr _, _, _, _, h => by obtain ⟨_, _, h, _⟩ := h; exact h
  | .kt _, _, _, _, h => by obtain ⟨_, _, h, _⟩ := h; exact h
  | .tup xs, _, _, c, h => by
    obtain ⟨_, _, _, _, h⟩ := h
    exact Rps.flatF c h
  | .lst _ _, _, _, c, _ => nomatch c
  | .dK _ _ _, _, _, c, _ => nomatch c
  | .dT _ _ _, _, _, c, _ => nomatch c
theorem Rps.flatF : ∀ {os : List O} {vs : List V} {F : List Addr}, flats os = true → Rps K H B os vs F → F = []
  | [], _, _, _, h => h.2
  | x :: xs, _, _, c, h => by
    have c' : (flat x && flats xs) = true := c
    rw [Bool.and_eq_true] at c'
    obtain ⟨v, vr, F1, F2, _, rfl, h3, h4⟩ := h
    rw [Rp.flatF c'.1 h3, Rps.flatF c'.2 h4]
    rfl
end
theorem Rp.fl {B' : Addr → Prop} {o : O} {v : V} {F : List Addr} (c : flat o = true) (h : Rp K H B o v F) : Rp K H B' o v [] := by
  have e := h.flatF c
  subst e
  exact h.clean (clean_of_flat c)
theorem Rps.fl {B' : Addr → Prop} {os : List O} {vs : List V} {F : List Addr} (c : flats os = true) (h : Rps K H B os vs F) : Rps K H B' os vs [] := by
  have e := h.flatF c
  subst e
  exact h.clean (cleans_of_flats c)
/-- where items are flat: item by item -/
theorem Rps.iff : ∀ {os : List O} {vs : List V}, Rps K H B os vs [] ↔ os.length = vs.length ∧ ∀ (i : Nat) (o : O) (v : V), os[i]? = some o → vs[i]? = some v → Rp K H B o v []
  | [], vs => by
    constructor
    · rintro ⟨rfl, _⟩
      exact ⟨rfl, fun i o v h _ => by simp at h⟩
    · rintro ⟨h, _⟩
      exact ⟨List.eq_nil_of_length_eq_zero h.symm, rfl⟩
  | o :: os, vs => by
    constructor
    · rintro ⟨v, vr, F1, F2, rfl, e, h3, h4⟩
      obtain ⟨rfl, rfl⟩ := List.append_eq_nil_iff.mp e.symm
      obtain ⟨l, q⟩ := Rps.iff.mp h4
      refine ⟨by rw [List.length_cons, List.length_cons, l], fun i o' v' h1 h2 => ?_⟩
      cases i with
      | zero => cases h1; cases h2; exact h3
      | succ i => exact q i o' v' h1 h2
    · rintro ⟨l, q⟩
      cases vs with
      | nil => cases l
      | cons v vr => exact ⟨v, vr, [], [], rfl, rfl, q 0 o v rfl rfl, Rps.iff.mpr ⟨Nat.succ.inj l, fun i o' v' h1 h2 => q (i + 1) o' v' h1 h2⟩⟩
theorem flats_at {xs : List O} (h : flats xs = true) : ∀ x ∈ xs, flat x = true := by rw [flats_eq, List.all_eq_true] at h; exact h
theorem flats_of {xs : List O} (h : ∀ x ∈ xs, flat x = true) : flats xs = true := by rw [flats_eq, List.all_eq_true]; exact h
end
/-! ### methods that change a list of flat items -/
section
variable {X : Cx} {K : PySem.W.Frag} {e : Expr} {es : List Expr} {ns : List Nat} {fs : SEs} {f g : SE} {pos : Pos}
def MetOk (K : PySem.W.Frag) (h : List O → List O → Option (List O)) (r : V → List V → Hp → VK → Prop) : Prop :=
  ∀ (B : Addr → Prop) (H : Hp) (p : Addr) (xs os ys : List O) (vs ws : List V) (Q : VK), flats xs = true → flats os = true → h xs os = some ys → H p = some (.lst vs) → Rps K H B xs vs [] → Rps K H B os ws [] →
    (∀ v us, Rps K H B ys us [] → Q v (upd H p (.lst us))) → r (.ref p) ws H Q
theorem sMet_some {h : List O → List O → Option (List O)} {i : Nat} {os : List O} {τ : Sl} {r : Fl} (q : (match τ[i]? with
  | some (some (O.lst true xs)) => if flats xs = true ∧ flats os = true then (h xs os).bind fun ys => some (Fl.nx (τ.set i (some (.lst true ys)))) else none
  | _ => none) = some r) : ∃ xs ys, τ[i]? = some (some (.lst true xs)) ∧ flats xs = true ∧ flats os = true ∧ h xs os = some ys ∧ r = .nx (τ.set i (some (.lst true ys))) := by
  split at q
  · rename_i xs hx
    split at q
    · rename_i hc
      obtain ⟨ys, hy, q⟩ := bind_some q
      cases q
      exact ⟨xs, ys, hx, hc.1, hc.2, hy, rfl⟩
    · cases q
  · cases q
theorem ds_met {id : String} {name : Str} {r : V → List V → Hp → VK → Prop} {h : List O → List O → Option (List O)} (slot : Slot "list" name id) (hty : typeOf (.builtin id) = pure (.type "method_descriptor")) (hm : MtR X id r) (hk : MetOk X.K h r)
    (i : Nat) {x : Str} {p pa pp : Pos} (ha : DA X ns (e :: es) fs) (hi : X.N[i]? = some x := by rfl) (hv : Vis X.env.scope x := by first | exact Or.inl rfl | exact Or.inr (Or.inl rfl) | exact Or.inr (Or.inr rfl))
    (hd : (x == ("__debug__" : Str)) = false := by decide) (hcd : (x == ("__classdict__" : Str)) = false := by decide)
    (hbase : attributeBase (.Name x p) name X.env (eval (.Name x p) X.env) = eval (.Name x p) X.env := by rfl)
    (hfew : ((backTo pp (starEach (e :: es) X.env)).all (fun x => !x.1) && (backToKw pp (keywordEach [] X.env)).all (fun x => x.1.isSome)
      && decide ((e :: es).length + ([] : List Keyword).length + (if ([] : List Keyword).isEmpty then 0 else 1) < 30)) = true := by rfl)
    (hline : (pa.endLine == pp.line) = true := by rfl) (hs : starEach (e :: es) X.env = (false, eval e X.env) :: starEach es X.env := by rfl) (hpl : (backTo pp (starEach es X.env)).any (·.1) = false := by rfl)
    (hsw : swapsWith (.Call (.Attribute (.Name x p) name pa) (e :: es) [] pp) none pos.line X.env = pure false := by rfl) :
    DS X (.Expr (.Call (.Attribute (.Name x p) name pa) (e :: es) [] pp) pos) (sMet h i fs) := by
  refine (ps_expr (pe_bm PySem.F.plainAttrs_list slot hty hm (pe_var hi hv hd hcd) ha hbase hfew hline hs hpl) hsw).byD fun D σ H hh => ?_
  obtain ⟨H0, B0, τ, Fs, r, rs, hr, k⟩ := hh
  obtain ⟨os, ho, hr⟩ := bind_some hr
  obtain ⟨xs, ys, hx, fx, fo, hy, rfl⟩ := sMet_some hr
  obtain ⟨q, vs, G, q1, q2, q3, q4, _⟩ := rs.lst hx
  have eG := q4.flatF fx
  subst eG
  refine ⟨.ref q, q1, .inl ⟨rfl, vs, SqL.of q3⟩, H0, B0, τ, Fs, os, rs, ho, fun ws H1 F1 s1 r1 n1 f1 => ?_⟩
  refine hk (Bor (fun a => B0 a ∨ a ∈ Fs.flatten) []) H1 q xs os ys vs ws _ fx fo hy (s1 _ _ q3) ((q4.same s1).fl fx) (r1.fl fo) fun v us ru => ?_
  obtain ⟨rs2, st2⟩ := rs.lupd (xs := xs) q2 q1 s1 ru (by simp) fun a z => nomatch z
  exact k σ _ _ rs2 st2
theorem ds_met0 {id : String} {name : Str} {r : V → List V → Hp → VK → Prop} {h : List O → List O → Option (List O)} (slot : Slot "list" name id) (hty : typeOf (.builtin id) = pure (.type "method_descriptor")) (hm : MtR X id r) (hk : MetOk X.K h r)
    (i : Nat) {x : Str} {p pa pp : Pos} (hi : X.N[i]? = some x := by rfl) (hv : Vis X.env.scope x := by first | exact Or.inl rfl | exact Or.inr (Or.inl rfl) | exact Or.inr (Or.inr rfl))
    (hd : (x == ("__debug__" : Str)) = false := by decide) (hcd : (x == ("__classdict__" : Str)) = false := by decide)
    (hbase : attributeBase (.Name x p) name X.env (eval (.Name x p) X.env) = eval (.Name x p) X.env := by rfl) (hline : (pa.endLine == pp.line) = true := by rfl)
    (hsw : swapsWith (.Call (.Attribute (.Name x p) name pa) [] [] pp) none pos.line X.env = pure false := by rfl) :
    DS X (.Expr (.Call (.Attribute (.Name x p) name pa) [] [] pp) pos) (sMet h i xsN) := by
  refine (ps_expr (pe_bm0 PySem.F.plainAttrs_list slot hty hm (pe_var hi hv hd hcd) hbase hline) hsw).byD fun D σ H hh => ?_
  obtain ⟨H0, B0, τ, Fs, r, rs, hr, k⟩ := hh
  obtain ⟨os, ho, hr⟩ := bind_some hr
  cases ho
  obtain ⟨xs, ys, hx, fx, fo, hy, rfl⟩ := sMet_some hr
  obtain ⟨q, vs, G, q1, q2, q3, q4, _⟩ := rs.lst hx
  have eG := q4.flatF fx
  subst eG
  refine ⟨.ref q, q1, .inl ⟨rfl, vs, SqL.of q3⟩, ?_⟩
  refine hk (Bor (fun a => B0 a ∨ a ∈ Fs.flatten) []) H q xs [] ys vs [] _ fx fo hy q3 (q4.fl fx) ⟨rfl, rfl⟩ fun v us ru => ?_
  obtain ⟨rs2, st2⟩ := rs.lupd (xs := xs) q2 q1 (Same.refl H) ru (by simp) fun a z => nomatch z
  exact k σ _ _ rs2 st2
theorem ok_ins : MetOk K mIns (fun x vs H Q => ∃ (l : Addr) (xs : List V) (i : Int) (y : V), x = .ref l ∧ vs = [.int i, y] ∧ H l = some (.lst xs) ∧ xs.length < sizeLine ∧ 0 ≤ i ∧ i < 2 ^ 63 ∧
    Q .non (upd H l (.lst (xs.take i.toNat ++ [y] ++ xs.drop i.toNat)))) := by
  intro B H p xs os ys vs ws Q fx fo hy hp hx ho k
  match os, hy with
  | [.int j, y], hy =>
    obtain ⟨v, w, F1, F2, rfl, e, h1, h2⟩ := rps2 ho
    obtain ⟨rfl, rfl⟩ := List.append_eq_nil_iff.mp e.symm
    obtain ⟨rfl, _⟩ := h1
    have hy' : (if 0 ≤ j ∧ j < 2 ^ 62 ∧ xs.length < sLine then some (xs.take j.toNat ++ [y] ++ xs.drop j.toNat) else none) = some ys := hy
    split at hy'
    · rename_i c
      cases hy'
      have l := hx.len
      obtain ⟨G1, t1, s1⟩ := hx.take j.toNat
      obtain ⟨G2, t2, s2⟩ := hx.drop j.toNat
      have e1 := List.eq_nil_of_sublist_nil s1
      have e2 := List.eq_nil_of_sublist_nil s2
      subst e1 e2
      refine ⟨p, vs, j, w, rfl, rfl, hp, ?_, c.1, Int.lt_trans c.2.1 (by decide), k _ _ ((t1.append (show Rps K H B [y] [w] [] from ⟨w, [], [], [], rfl, rfl, h2, rfl, rfl⟩)).append t2)⟩
      rw [← l]
      exact Nat.lt_of_lt_of_le c.2.2 (by rw [sizeLine_eq]; decide)
    · cases hy'
theorem ok_rev : MetOk K mRev rReverse := by
  intro B H p xs os ys vs ws Q fx fo hy hp hx ho k
  match os, hy with
  | [], hy =>
    cases hy
    obtain ⟨rfl, _⟩ := ho
    refine ⟨p, vs, rfl, rfl, hp, k _ _ (Rps.iff.mpr ⟨by rw [List.length_reverse, List.length_reverse, hx.len], fun i o v h1 h2 => ?_⟩)⟩
    have hl := (Rps.iff.mp hx).1
    have hi : i < xs.length := by have := (List.getElem?_eq_some_iff.mp h1).1; rwa [List.length_reverse] at this
    rw [List.getElem?_reverse hi] at h1
    rw [List.getElem?_reverse (by omega), ← hl] at h2
    exact (Rps.iff.mp hx).2 _ o v h1 h2
theorem ok_clr : MetOk K mClr rClear := by
  intro B H p xs os ys vs ws Q fx fo hy hp hx ho k
  match os, hy with
  | [], hy =>
    cases hy
    obtain ⟨rfl, _⟩ := ho
    exact ⟨p, vs, rfl, rfl, hp, k _ _ ⟨rfl, rfl⟩⟩
theorem ok_pop : MetOk K mPop rPop := by
  intro B H p xs os ys vs ws Q fx fo hy hp hx ho k
  match os, hy with
  | [], hy =>
    have hy' : (if 0 < xs.length then some xs.dropLast else none) = some ys := hy
    split at hy'
    · rename_i c
      cases hy'
      obtain ⟨rfl, _⟩ := ho
      have hl := (Rps.iff.mp hx).1
      refine ⟨p, vs, vs[vs.length - 1]'(by omega), rfl, rfl, hp, List.getElem?_eq_getElem _, k _ _ (Rps.iff.mpr ⟨by rw [List.length_dropLast, List.length_dropLast, hl], fun i o v h1 h2 => ?_⟩)⟩
      rw [List.getElem?_dropLast] at h1 h2
      split at h1
      · split at h2
        · exact (Rps.iff.mp hx).2 i o v h1 h2
        · cases h2
      · cases h1
    · cases hy'
theorem ok_popAt : MetOk K mPopAt rPopAt := by
  intro B H p xs os ys vs ws Q fx fo hy hp hx ho k
  match os, hy with
  | [.int j], hy =>
    have hy' : (if 0 ≤ j ∧ j.toNat < xs.length ∧ j < 2 ^ 62 then some (xs.eraseIdx j.toNat) else none) = some ys := hy
    split at hy'
    · rename_i c
      cases hy'
      obtain ⟨v, rfl, r⟩ := rps1 ho
      obtain ⟨rfl, _⟩ := r
      have hl := (Rps.iff.mp hx).1
      have hj : j.toNat < vs.length := by rw [← hl]; exact c.2.1
      refine ⟨p, vs, j, j.toNat, vs[j.toNat], rfl, rfl, hp, by have := c.1; omega, Int.lt_trans c.2.2 (by decide), ?_, List.getElem?_eq_getElem hj, k _ _ (Rps.iff.mpr ⟨?_, fun i o v h1 h2 => ?_⟩)⟩
      · exact seqIndex_of c.1 (by have := c.1; omega)
      · rw [List.length_eraseIdx, List.length_eraseIdx, hl]
      · rw [List.getElem?_eraseIdx] at h1 h2
        split at h1
        · rename_i hlt; rw [if_pos hlt] at h2; exact (Rps.iff.mp hx).2 _ o v h1 h2
        · rename_i hlt; rw [if_neg hlt] at h2; exact (Rps.iff.mp hx).2 _ o v h1 h2
    · cases hy'
/-! ### xs[a] = b -/
theorem sSetIx_some {i : Nat} {τ : Sl} {o y : O} {r : Fl} (q : (match y, τ[i]? with
    | .int k, some (some (.lst true xs)) => if flat o = true ∧ flats xs = true ∧ 0 ≤ k ∧ k.toNat < xs.length then some (Fl.nx (τ.set i (some (.lst true (xs.set k.toNat o))))) else none
    | _, _ => none) = some r) : ∃ (j : Int) (xs : List O), y = .int j ∧ τ[i]? = some (some (.lst true xs)) ∧ flat o = true ∧ flats xs = true ∧ 0 ≤ j ∧ j.toNat < xs.length ∧ r = .nx (τ.set i (some (.lst true (xs.set j.toNat o)))) := by
  split at q
  · rename_i j xs hx
    split at q
    · rename_i c
      cases q
      exact ⟨j, xs, rfl, hx, c.1, c.2.1, c.2.2.1, c.2.2.2, rfl⟩
    · cases q
  · cases q
theorem sDput_some {i : Nat} {τ : Sl} {o y : O} {r : Fl} (q : (match y, τ[i]? with
    | .tup xs, some (some (.dT true ks vs)) => if flat o = true ∧ flats vs = true ∧ ks.length = vs.length ∧ ks.length < sLine then (keyL xs).bind fun kk => some (Fl.nx (τ.set i (some (.dT true (dput ks vs kk o).1 (dput ks vs kk o).2)))) else none
    | _, _ => none) = some r) : ∃ (ys : List O) (kk : List Key) (ks : List (List Key)) (vs : List O), y = .tup ys ∧ keyL ys = some kk ∧ τ[i]? = some (some (.dT true ks vs)) ∧ flat o = true ∧ flats vs = true ∧ ks.length = vs.length ∧ ks.length < sLine ∧ r = .nx (τ.set i (some (.dT true (dput ks vs kk o).1 (dput ks vs kk o).2))) := by
  split at q
  · rename_i ys ks vs hx
    split at q
    · rename_i c
      obtain ⟨kk, hkk, q⟩ := bind_some q
      cases q
      exact ⟨ys, kk, ks, vs, rfl, hkk, hx, c.1, c.2.1, c.2.2.1, c.2.2.2, rfl⟩
    · cases q
  · cases q
theorem ds_setix (i : Nat) {x : Str} {a b : Expr} {fa fb : SE} {na nb : List Nat} {p p2 : Pos} (hb : DE X nb b fb) (ha : DE X na a fa) (hi : X.N[i]? = some x := by rfl) (hv : Vis X.env.scope x := by first | exact Or.inl rfl | exact Or.inr (Or.inl rfl) | exact Or.inr (Or.inr rfl))
    (hd : (x == ("__debug__" : Str)) = false := by decide) (hcd : (x == ("__classdict__" : Str)) = false := by decide)
    (hst : ∀ v, assign (.Subscript (.Name x p) a p2) X.env v = (do
      let ov ← holding [v] (eval (.Name x p) X.env)
      let iv ← holding [v, ov] (eval a X.env)
      standAt p2
      holding [v, ov, iv] (setItem ov iv v)
      release [v, ov, iv] []) := by intro _; rfl)
    (hs : swapsWithSole [.Subscript (.Name x p) a p2] b pos.line X.env = pure false := by rfl) (hw : swappedStores [.Subscript (.Name x p) a p2] b X.env = pure none := by rfl)
    (h1 : (assignEach [.Subscript (.Name x p) a p2] X.env).map (·.2) = [assign (.Subscript (.Name x p) a p2) X.env] := by rfl) :
    DS X (.Assign [.Subscript (.Name x p) a p2] b pos) (sSetIx i fa fb) := by
  refine (ps_asg hb (pg_sub (pe_var hi hv hd hcd) ha set_list hst) hs hw h1).byD fun D σ H hh => ?_
  obtain ⟨H0, B0, τ, Fs, r, rs, hr, k⟩ := hh
  obtain ⟨o, ho, hr⟩ := bind_some hr
  obtain ⟨y, hy, hr⟩ := bind_some hr
  refine ⟨H0, B0, τ, Fs, o, rs, ho, fun v1 H1 F1 s1 r1 n1 f1 => ?_⟩
  obtain ⟨j, xs, rfl, hx, fo, fx, j0, jl, rfl⟩ := sSetIx_some hr
  obtain ⟨q, vs, G, q1, q2, q3, q4, _⟩ := rs.lst hx
  have eG := q4.flatF fx
  subst eG
  have eF := r1.flatF fo
  subst eF
  refine ⟨.ref q, q1, H0, B0, τ, Fs, _, rs.go s1, hy, fun v2 H2 F2 s2 r2 n2 f2 => ?_⟩
  obtain ⟨rfl, rfl⟩ := r2
  have hl := (Rps.iff.mp q4).1
  have s12 : Same H H2 := s1.trans s2
  refine ⟨q, vs, j, j.toNat, rfl, rfl, s12 _ _ q3, ?_, ?_⟩
  · unfold ixN
    rw [if_pos j0, if_pos (by omega)]
  · obtain ⟨rs2, st2⟩ := rs.lupd (xs := xs) (xs' := xs.set j.toNat o) (vs' := vs.set j.toNat v1) q2 q1 s12 (Rps.iff.mpr ⟨by rw [List.length_set, List.length_set, hl], fun l o' v' h1 h2 => by
      by_cases e : j.toNat = l
      · subst e
        rw [List.getElem?_set_self (by omega)] at h1 h2
        cases h1
        cases h2
        exact (r1.same s2).fl fo
      · rw [List.getElem?_set_ne e] at h1 h2
        exact (Rps.iff.mp ((q4.same s12).fl (B' := Bor (fun a => B0 a ∨ a ∈ Fs.flatten) []) fx)).2 l o' v' h1 h2⟩) (by simp) fun a z => nomatch z
    exact k σ _ _ rs2 st2
/-! ### dicts with tuples for keys -/
theorem de_dnew {pos : Pos} : DE X ns (.Dict [] [] pos) xDnew := by
  refine pe_dnewT.byD fun σ H Q q => ?_
  obtain ⟨H0, B0, τ, Fs, o, rs, ho, k⟩ := q
  cases ho
  exact fun p hp => k (.ref p) _ [p] (same_upd hp) ⟨p, [], [], rfl, upd_same, rfl, rfl, rfl, rfl⟩ (by simp) fun a z => by rw [List.mem_singleton.mp z]; exact hp
theorem key_items : ∀ {xs : List O} {ks : List Key} {vs : List V} {F : List Addr} {H : Hp} {B : Addr → Prop}, keyL xs = some ks → Rps K H B xs vs F → vs = ks.map kV
  | [], _, _, _, _, _, h, r => by cases h; exact r.1
  | x :: xs, _, _, _, _, _, h, r => by
    obtain ⟨k, hk, h⟩ := bind_some h
    obtain ⟨ks, hks, h⟩ := bind_some h
    cases h
    obtain ⟨v, vr, F1, F2, rfl, _, h3, h4⟩ := r
    rw [key_items hks h4]
    cases x with
    | int j => cases hk; rw [h3.1]; rfl
    | str j => cases hk; rw [h3.1]; rfl
    | _ => cases hk
theorem putK_keys {kvs : List (List Key × V)} {k : List Key} {v : V} : (kvs.any fun kv => decide (kv.1 = k)) = ((kvs.map (·.1)).any fun k' => decide (k' = k)) := by
  rw [List.any_map]; rfl
theorem putK_ok {ks : List (List Key)} {os : List O} {kvs : List (List Key × V)} {k : List Key} {o : O} {v : V} {H : Hp} {B : Addr → Prop} (hk : kvs.map (·.1) = ks) (hv : Rps K H B os (kvs.map (·.2)) []) (ho : Rp K H B o v []) :
    (putK kvs k v).map (·.1) = (dput ks os k o).1 ∧ Rps K H B (dput ks os k o).2 ((putK kvs k v).map (·.2)) [] := by
  have hl := (Rps.iff.mp hv).1
  rw [List.length_map] at hl
  have hkl : ks.length = kvs.length := by rw [← hk, List.length_map]
  unfold putK dput
  rw [putK_keys (v := v), hk]
  by_cases c : (ks.any fun k' => decide (k' = k)) = true
  · rw [if_pos c, if_pos c]
    refine ⟨?_, Rps.iff.mpr ⟨?_, fun i o' v' h1 h2 => ?_⟩⟩
    · rw [List.map_map, ← hk]
      apply List.map_congr_left
      intro kv _
      show (if kv.1 = k then (kv.1, v) else kv).1 = kv.1
      split <;> rfl
    · show (List.zipWith _ ks os).length = _
      rw [List.length_zipWith, List.length_map, List.length_map, hkl, hl, Nat.min_self]
    · have h1 : (List.zipWith (fun k' v => if k' = k then o else v) ks os)[i]? = some o' := h1
      rw [List.getElem?_zipWith] at h1
      rw [List.map_map, List.getElem?_map] at h2
      cases e : kvs[i]? with
      | none => rw [e] at h2; cases h2
      | some kv =>
        rw [e] at h2
        have ek : ks[i]? = some kv.1 := by rw [← hk, List.getElem?_map, e]; rfl
        rw [ek] at h1
        cases e2 : os[i]? with
        | none => rw [e2] at h1; cases h1
        | some u0 =>
          rw [e2] at h1
          have h1 : some (if kv.1 = k then o else u0) = some o' := h1
          have h2 : some (if kv.1 = k then (kv.1, v) else kv).2 = some v' := h2
          by_cases q : kv.1 = k
          · rw [if_pos q] at h1 h2
            cases h1; cases h2
            exact ho
          · rw [if_neg q] at h1 h2
            cases h1; cases h2
            exact (Rps.iff.mp hv).2 i o' kv.2 e2 (by rw [List.getElem?_map, e]; rfl)
  · rw [if_neg c, if_neg c]
    refine ⟨by rw [List.map_append, hk]; rfl, ?_⟩
    rw [List.map_append]
    exact hv.append (show Rps K H B [o] [v] [] from ⟨v, [], [], [], rfl, rfl, ho, rfl, rfl⟩)
theorem RS.dct {H0 H : Hp} {B0 : Addr → Prop} {σ : St} {τ : Sl} {Fs : List (List Addr)} {i : Nat} {ks : List (List Key)} {os : List O} (rs : RS K H0 B0 H σ τ Fs) (h : τ[i]? = some (some (.dT true ks os))) :
    ∃ p kvs G, σ[i]? = some (some (.ref p)) ∧ Fs[i]? = some (p :: G) ∧ H p = some (.dT kvs) ∧ kvs.map (·.1) = ks ∧ Rps K H (fun a => B0 a ∨ a ∈ Fs.flatten) os (kvs.map (·.2)) G := by
  obtain ⟨v, F, a, b, c⟩ := rs.slot i _ h
  obtain ⟨p, kvs, G, rfl, h2, rfl, h3, h4⟩ := c
  exact ⟨p, kvs, G, a, b, h2, h3, h4⟩
theorem ds_dput (i : Nat) {x : Str} {a b : Expr} {fa fb : SE} {na nb : List Nat} {p p2 : Pos} (hu : X.A.units + 1 < cLine) (hb : DE X nb b fb) (ha : DE X na a fa) (hi : X.N[i]? = some x := by rfl) (hv : Vis X.env.scope x := by first | exact Or.inl rfl | exact Or.inr (Or.inl rfl) | exact Or.inr (Or.inr rfl))
    (hd : (x == ("__debug__" : Str)) = false := by decide) (hcd : (x == ("__classdict__" : Str)) = false := by decide)
    (hs : swapsWith b (some (.Subscript (.Name x p) a p2)) pos.line X.env = pure false := by rfl) :
    DS X (.Assign [.Subscript (.Name x p) a p2] b pos) (sDput i fa fb) := by
  refine (ps_dput hu (pe_var hi hv hd hcd) ha hb hs).byD fun D σ H hh => ?_
  obtain ⟨H0, B0, τ, Fs, r, rs, hr, k⟩ := hh
  obtain ⟨o, ho, hr⟩ := bind_some hr
  obtain ⟨y, hy, hr⟩ := bind_some hr
  refine ⟨H0, B0, τ, Fs, o, rs, ho, fun v1 H1 F1 s1 r1 n1 f1 => ?_⟩
  obtain ⟨ys, kk, ks, vs, rfl, hkk, hx, fo, fv, hl, hz, rfl⟩ := sDput_some hr
  obtain ⟨q, kvs, G, q1, q2, q3, q4, q5⟩ := rs.dct hx
  have eG := q5.flatF fv
  subst eG
  have eF := r1.flatF fo
  subst eF
  refine ⟨.ref q, q1, H0, B0, τ, Fs, _, rs.go s1, hy, fun v2 H2 F2 s2 r2 n2 f2 => ?_⟩
  obtain ⟨t, us, rfl, ht, rt⟩ := r2
  have eu := key_items hkk rt
  subst eu
  have s12 : Same H H2 := s1.trans s2
  have mq : MutB (fun a => a = q) H2 := fun a z => by rw [z, s12 _ _ q3]; trivial
  refine ⟨q, _, rfl, DPut.t (s12 _ _ q3) ht ?_, ?_⟩
  · have : kvs.length = ks.length := by rw [← q4, List.length_map]
    rw [this]
    exact Nat.lt_of_lt_of_le hz (by rw [sizeLine_eq]; decide)
  · have c1 : Rps X.K (upd H2 q (.dT (putK kvs kk v1))) (Bor (fun a => B0 a ∨ a ∈ Fs.flatten) [q]) vs (kvs.map (·.2)) [] := ((((q5.same s12).fl (B' := fun a => a = q) fv).ext (C := fun a => a = q) (H' := upd H2 q (.dT (putK kvs kk v1))) (fun a o n e => by rw [upd_ne n]; exact e) mq (fun a z => z) (F := []) (fun a z => by cases z))).fl fv
    have c2 : Rp X.K (upd H2 q (.dT (putK kvs kk v1))) (Bor (fun a => B0 a ∨ a ∈ Fs.flatten) [q]) o v1 [] := ((((r1.same s2).fl (B' := fun a => a = q) fo).ext (C := fun a => a = q) (H' := upd H2 q (.dT (putK kvs kk v1))) (fun a o n e => by rw [upd_ne n]; exact e) mq (fun a z => z) (F := []) (fun a z => by cases z))).fl fo
    obtain ⟨z1, z2⟩ := putK_ok (k := kk) q4 c1 c2
    obtain ⟨rs2, st2⟩ := rs.upd (o2 := .dT true (dput ks vs kk o).1 (dput ks vs kk o).2) (u := .dT (putK kvs kk v1)) (F2 := [q]) q2 List.mem_cons_self q1 s12 ⟨q, _, [], rfl, upd_same, rfl, z1, z2⟩ (by simp) fun a z => .inl z
    exact k σ _ _ rs2 st2
end
/-! ### list(x), sorted(x) -/
section
variable {X : Cx} {K : PySem.W.Frag}
theorem keyV_rp {H : Hp} {B : Addr → Prop} : ∀ (k : List Key), Rps K H B (k.map keyV) (k.map kV) []
  | [] => ⟨rfl, rfl⟩
  | .inl i :: k => ⟨_, _, [], [], rfl, rfl, ⟨rfl, rfl⟩, keyV_rp k⟩
  | .inr x :: k => ⟨_, _, [], [], rfl, rfl, ⟨rfl, rfl⟩, keyV_rp k⟩
theorem keys_rp {H : Hp} {B : Addr → Prop} : ∀ {kvs : List (List Key × V)} {bs : List Addr}, IsKeys H kvs bs → Rps K H B ((kvs.map (·.1)).map keyT) (bs.map V.ref) []
  | _, _, .nil => ⟨rfl, rfl⟩
  | _, _, .cons (a := p) h t => ⟨_, _, [], [], rfl, rfl, ⟨_, _, rfl, h, keyV_rp p.1⟩, keys_rp t⟩
theorem o_listE : OpN K listE (fun xs H Q => (∃ p ys, xs = [.ref p] ∧ (SqL K H p ys ∨ SqT K H p ys) ∧ ∀ l, H l = none → Q (.ref l) (upd H l (.lst ys))) ∨ ∃ d kvs, xs = [V.ref d] ∧ Rd H d (.dT kvs) ∧ ∀ p bs, H p = none → IsKeys H kvs bs → Q (.ref p) (upd H p (.lst (bs.map V.ref)))) := by
  intro B H xs o vs F Q e r nd av k
  match xs, e with
  | [.tup xs], e => exact .inl (o_list B H [.tup xs] o vs F Q e r nd av k)
  | [.lst own xs], e => exact .inl (o_list B H [.lst own xs] o vs F Q e r nd av k)
  | [.dT own ks os], e =>
    cases e
    obtain ⟨v, rfl, r1⟩ := rps1 r
    have fin : ∃ d kvs, v = .ref d ∧ H d = some (.dT kvs) ∧ kvs.map (·.1) = ks := by
      cases own with
      | false =>
        obtain ⟨d, kvs, e, h, _, _, hk, _⟩ := r1
        exact ⟨d, kvs, e, h, hk⟩
      | true =>
        obtain ⟨d, kvs, _, e, h, _, hk, _⟩ := r1
        exact ⟨d, kvs, e, h, hk⟩
    obtain ⟨d, kvs, rfl, hd, rfl⟩ := fin
    refine .inr ⟨d, kvs, rfl, .inl hd, fun p bs hp hb => ?_⟩
    obtain ⟨n3, n4⟩ := new_lst (K := K) (B := B) (G := []) hp (keys_rp (B := Bor B []) hb) List.nodup_nil
    exact k (.ref p) _ [p] (same_upd hp) n3 n4 fun z q => .inr (by rw [List.mem_singleton.mp q]; exact hp)
theorem c_listE (hc : X.calm = true) : CallR X (.type "list") (fun xs H Q => (∃ p ys, xs = [.ref p] ∧ (SqL X.K H p ys ∨ SqT X.K H p ys) ∧ ∀ l, H l = none → Q (.ref l) (upd H l (.lst ys))) ∨ ∃ d kvs, xs = [V.ref d] ∧ Rd H d (.dT kvs) ∧ ∀ p bs, H p = none → IsKeys H kvs bs → Q (.ref p) (upd H p (.lst (bs.map V.ref)))) :=
  call_list_of.or (call_list_dT hc)
theorem u64 {n m : Nat} (h : n + 64 < m) : n + 64 < m := h
theorem u1 {n m : Nat} (h : n + 64 < m) : n + 1 < m := by omega
/-! sorted -/
def TupsI (K : PySem.W.Frag) (H : Hp) : List V → List (List Int) → Prop := PySem.W.EachIs fun x ns => ∃ t, x = V.ref t ∧ H t = some (.tup (ns.map V.int))
def rSortX (K : PySem.W.Frag) : List V → Hp → VK → Prop := fun vs H Q => ∃ (a : Addr) (xs : List V) (bs : List (List Int)), vs = [V.ref a] ∧ SqL K H a xs ∧ TupsI K H xs bs ∧ (∀ ns ∈ bs, ns ≠ []) ∧
  ∀ (ys : List V) (p : Addr), TupsI K H ys (bs.mergeSort leI) → H p = none → Q (.ref p) (upd H p (.lst ys))
theorem le_tup : PySem.W.dataLe false (fun ns : List Int => PyData.tuple (ns.map .int)) = leI := PySem.W.dataLe_rows id
abbrev encT (ns : List Int) : PyData := PyData.tuple (ns.map .int)
def RT (K : PySem.W.Frag) (H : Hp) (u : Value) (ns : List Int) : Prop := ∃ t, u = Value.ref t ∧ H t = some (.tup (ns.map V.int))
theorem each_RT {H : Hp} : ∀ {xs : List V} {its : List Value} {bs : List (List Int)}, TupsI K H xs bs → Vals xs its → PySem.W.EachIs (RT K H) its bs
  | _, _, _, .nil, .nil => .nil
  | _, _, _, .cons h t, .cons r rr => by
    obtain ⟨t', rfl, ht⟩ := h
    cases r
    exact .cons ⟨t', rfl, ht⟩ (each_RT t rr)
theorem back_RT {H : Hp} : ∀ {its : List Value} {bs : List (List Int)}, PySem.W.EachIs (RT K H) its bs → TupsI K H (its.map bkV) bs ∧ Vals (its.map bkV) its
  | _, _, .nil => ⟨.nil, .nil⟩
  | _, _, .cons h t => by
    obtain ⟨t', rfl, ht⟩ := h
    obtain ⟨a, b⟩ := back_RT t
    exact ⟨.cons ⟨t', rfl, ht⟩ a, .cons rfl b⟩
theorem reads_ints {h : Heap} : ∀ {vs : List Value} {ns : List Int}, IntsAre vs ns → ReadsAll h vs (ns.map PyData.int) []
  | _, _, .nil => .nil
  | _, _, .cons n t r => .cons (as := []) (bs := []) (.int n t) (reads_ints r)
theorem depth_encT (ns : List Int) : (encT ns).depth ≤ 1 := by
  show (PyData.tuple (ns.map .int)).depth ≤ 1
  rw [PyData.depth, PySem.W.depth_ints]
  omega
theorem c_sortX (hu : X.A.units + 64 < cLine) : CallR X (.builtin "sorted") (rSortX X.K) := by
  intro pins s σ H vs us Q I r h
  obtain ⟨a, xs, bs, rfl, hs, hx, hne, q⟩ := h
  obtain ⟨its, rv, hl, hz⟩ := I.list hs
  rw [Vals.ref1 r]
  have e : PySem.W.EachIs (RT X.K H) its bs := each_RT hx rv
  have er : PySem.W.EachIs (fun v b => ∃ as, Reads s.heap v (encT b) as) its bs := e.mono fun u ns ⟨t, et, ht⟩ => by
    obtain ⟨t', xs', e2, ⟨o, ho, hc, n, hd⟩, hi⟩ := tupI_raw I (SqT.of ht)
    cases e2
    rw [et]
    exact ⟨[], .tuple ho hc hd (reads_ints hi)⟩
  have hal : PySem.W.AllAlike (bs.map encT) := PySem.W.AllAlike.of fun b b' => by
    show PySem.W.alike (.tuple (b.map .int)) (.tuple (b'.map .int)) = true
    rw [PySem.W.alike, PySem.W.alike_ints]
  have hk : PySem.W.Sortable (bs.map encT) := .inl fun d hd => by
    obtain ⟨b, hb, rfl⟩ := List.mem_map.mp hd
    cases b with
    | nil => exact absurd rfl (hne _ hb)
    | cons x r => exact ⟨_, _, rfl⟩
  have lx : xs.length = its.length := rv.length
  refine PySem.W.sorted_data (enc := encT) hl.isList e er hal hk (by rw [← e.length, ← lx]; exact hz) (fun b _ => by have := depth_encT b; omega) fun out ho hout => ?_
  have hout : PySem.W.EachIs (RT X.K H) out (bs.mergeSort (PySem.W.dataLe false encT)) := hout
  rw [le_tup] at hout
  obtain ⟨h1, h2⟩ := back_RT hout
  obtain ⟨ep, he'⟩ := PyProof.Rows.sortedAll_at s.heap its out.toArray
  have hlen : (out.map bkV).length ≤ sizeLine := by
    rw [List.length_map, ho, ← e.length, ← lx]
    exact hz
  exact ⟨.ref _, upd H (s.heap.objs.size + 1) (.lst (out.map bkV)), I.laid (t' := s.toks) (fun _ _ => PyProof.Rows.sortedAll_old) (Nat.le_succ _) ⟨hlen, out, ep, h2, he'⟩, rfl, q _ _ h1 (I.hok.fresh (Nat.le_succ _))⟩
theorem asIs_rp {H : Hp} {B : Addr → Prop} : ∀ {xs : List O} {is : List Int} {vs : List V} {F : List Addr}, asIs xs = some is → Rps K H B xs vs F → vs = is.map V.int
  | [], _, _, _, h, r => by cases h; exact r.1
  | x :: xs, is, vs, F, h, r => by
    cases x with
    | int j =>
      obtain ⟨is', h1, h⟩ := bind_some (show (asIs xs).bind (fun is => some (j :: is)) = some is from h)
      cases h
      obtain ⟨v, vr, F1, F2, rfl, _, h3, h4⟩ := r
      rw [asIs_rp h1 h4, h3.1]
      rfl
    | _ => cases h
theorem asTs_rp {H : Hp} {B : Addr → Prop} : ∀ {xs : List O} {bs : List (List Int)} {vs : List V} {F : List Addr}, asTs xs = some bs → Rps K H B xs vs F → TupsI K H vs bs ∧ ∀ ns ∈ bs, ns ≠ []
  | [], _, _, _, h, r => by
    cases h
    rw [r.1]
    exact ⟨.nil, fun ns h => by cases h⟩
  | x :: xs, bs, vs, F, h, r => by
    obtain ⟨t, ht, h⟩ := bind_some (show (asT x).bind (fun t => (asTs xs).bind fun ts => some (t :: ts)) = some bs from h)
    obtain ⟨ts, hts, h⟩ := bind_some h
    cases h
    obtain ⟨v, vr, F1, F2, rfl, _, h3, h4⟩ := r
    obtain ⟨a1, a2⟩ := asTs_rp hts h4
    cases x with
    | tup ys =>
      obtain ⟨is, his, ht⟩ := bind_some (show (asIs ys).bind (fun is => if is = [] then none else some is) = some t from ht)
      split at ht
      · cases ht
      · rename_i hn
        cases ht
        obtain ⟨p, ws, rfl, h5, h6⟩ := h3
        have e := asIs_rp his h6
        subst e
        refine ⟨.cons ⟨p, rfl, h5⟩ a1, fun ns h => ?_⟩
        rcases List.mem_cons.mp h with h | h
        · rw [h]; exact hn
        · exact a2 ns h
    | _ => cases ht
theorem tups_rp {H : Hp} {B : Addr → Prop} : ∀ {vs : List V} {bs : List (List Int)}, TupsI K H vs bs → Rps K H B (bs.map tupI) vs []
  | _, _, .nil => ⟨rfl, rfl⟩
  | _, _, .cons h t => by
    obtain ⟨a, rfl, ha⟩ := h
    exact ⟨_, _, [], [], rfl, rfl, ⟨a, _, rfl, ha, Rps.ints rfl⟩, tups_rp t⟩
theorem EachIs_mono {α β : Type} {R S : α → β → Prop} (f : ∀ a b, R a b → S a b) : ∀ {as : List α} {bs : List β}, PySem.W.EachIs R as bs → PySem.W.EachIs S as bs
  | _, _, .nil => .nil
  | _, _, .cons h t => .cons (f _ _ h) (EachIs_mono f t)
theorem o_sort : OpN K sortE (rSortX K) := by
  intro B H xs o vs F Q e r nd av k
  match xs, e with
  | [.lst own xs], e =>
    obtain ⟨bs, hb, e⟩ := bind_some (show (asTs xs).bind (fun bs => some (O.lst true ((bs.mergeSort leI).map tupI))) = some o from e)
    cases e
    obtain ⟨v, rfl, r1⟩ := rps1 r
    obtain ⟨a, ws, G, rfl, h2, q, sb, _⟩ := r1.lst_at
    obtain ⟨t1, t2⟩ := asTs_rp hb q
    refine ⟨a, ws, bs, rfl, SqL.of h2, t1, t2, fun ys p hy hp => ?_⟩
    obtain ⟨n3, n4⟩ := new_lst (K := K) (B := B) (G := []) hp (tups_rp (B := Bor B []) hy) List.nodup_nil
    exact k (.ref p) _ [p] (same_upd hp) n3 n4 fun z q => .inr (by rw [List.mem_singleton.mp q]; exact hp)
/-! is, is not; chains -/
variable {a b c : Expr} {na nb nc : List Nat} {fa fb fc : SE} {pos : Pos}
theorem o_isB : Op2 K isB2 rIsB := by
  intro B H x y o v1 v2 F1 F2 Q e r1 r2 nd av k
  cases x <;> cases y <;> first | (cases e; done) | skip
  cases e
  obtain ⟨rfl, _⟩ := r1
  obtain ⟨rfl, _⟩ := r2
  exact ⟨_, _, rfl, rfl, done0 k ⟨rfl, rfl⟩⟩
theorem o_notB : Op2 K notB2 rNotB := by
  intro B H x y o v1 v2 F1 F2 Q e r1 r2 nd av k
  cases x <;> cases y <;> first | (cases e; done) | skip
  cases e
  obtain ⟨rfl, _⟩ := r1
  obtain ⟨rfl, _⟩ := r2
  exact ⟨_, _, rfl, rfl, done0 k ⟨rfl, rfl⟩⟩
theorem xCh_some {p q : Int → Int → Bool} {τ : Sl} {o : O} (h : xCh p q fa fb fc τ = some o) : ∃ i j, fa τ = some (.int i) ∧ fb τ = some (.int j) ∧ ((p i j = false ∧ o = .bl false) ∨ (p i j = true ∧ ∃ l, fc τ = some (.int l) ∧ o = .bl (q j l))) := by
  obtain ⟨x, hx, h⟩ := bind_some h
  obtain ⟨y, hy, h⟩ := bind_some h
  cases x with
  | int i => cases y with
    | int j =>
      refine ⟨i, j, hx, hy, ?_⟩
      have h : (if p i j = true then (fc τ).bind fun z => cmpI q (.int j) z else some (.bl false)) = some o := h
      split at h
      · rename_i c
        obtain ⟨z, hz, h⟩ := bind_some h
        cases z with
        | int l =>
          cases h
          exact .inr ⟨c, l, hz, rfl⟩
        | _ => cases h
      · rename_i c
        cases h
        exact .inl ⟨by simpa using c, rfl⟩
    | _ => cases h
  | _ => cases h
theorem chain_read {p q : Int → Int → Bool} {ns : List Nat} (σ : St) (H : Hp) (Q : VK) (h : tE K ns (xCh p q fa fb fc) σ H Q) : tChain (rI0 fun i j => .bl (p i j)) (rI0 fun i j => .bl (q i j)) (tE K na fa) (tE K nb fb) (tE K nc fc) σ H Q := by
  obtain ⟨H0, B0, τ, Fs, o, rs, ho, k⟩ := h
  obtain ⟨i, j, hx, hy, hc⟩ := xCh_some ho
  refine ⟨H0, B0, τ, Fs, .int i, rs, hx, fun v H1 F1 s1 r1 n1 f1 => ?_⟩
  obtain ⟨rfl, rfl⟩ := r1
  refine ⟨H0, B0, τ, Fs, .int j, rs.go s1, hy, fun v2 H2 F2 s2 r2 n2 f2 => ?_⟩
  obtain ⟨rfl, rfl⟩ := r2
  refine ⟨i, j, rfl, rfl, p i j, rfl, ?_⟩
  rcases hc with ⟨c, rfl⟩ | ⟨c, l, hz, rfl⟩
  · rw [c]
    exact k _ H2 [] (s1.trans s2) ⟨rfl, rfl⟩ List.nodup_nil fun a z => by cases z
  · rw [c]
    refine ⟨H0, B0, τ, Fs, .int l, rs.go (s1.trans s2), hz, fun v3 H3 F3 s3 r3 n3 f3 => ?_⟩
    obtain ⟨rfl, rfl⟩ := r3
    exact ⟨j, l, rfl, rfl, k _ H3 [] ((s1.trans s2).trans s3) ⟨rfl, rfl⟩ List.nodup_nil fun a z => by cases z⟩
theorem de_chain {op op' : CmpOp} {p q : Int → Int → Bool} (ho : OpR X (compareOp op) (rI0 fun i j => .bl (p i j))) (ho' : OpR X (compareOp op') (rI0 fun i j => .bl (q i j))) (ha : DE X na a fa) (hb : DE X nb b fb) (hc : DE X nc c fc)
    (hm : lastMarks [op, op'] [b, c] = false := by with_unfolding_all rfl) : DE X (na ++ nb ++ nc) (.Compare a [op, op'] [b, c] pos) (xCh p q fa fb fc) :=
  (pe_chain ho ho' ha hb hc hm).byD fun σ H Q h => chain_read σ H Q h
theorem dt_chain {op op' : CmpOp} {p q : Int → Int → Bool} (ho : OpR X (compareOp op) (rI0 fun i j => .bl (p i j))) (ho' : OpR X (compareOp op') (rI0 fun i j => .bl (q i j))) (ha : DE X na a fa) (hb : DE X nb b fb) (hc : DE X nc c fc)
    (hm : lastMarks [op, op'] [b, c] = false := by with_unfolding_all rfl) : DT X (.Compare a [op, op'] [b, c] pos) (tOf (xCh p q fa fb fc)) :=
  (pt_chain ho ho' ha hb hc hm).byD fun σ H Q h => chain_read (ns := na ++ nb ++ nc) σ H _ (tE_bl σ H Q h)
end
end Dv

end
section
set_option Elab.async false
set_option linter.all false
set_option maxRecDepth 100000
/-! Dw: still more constructs: least and greatest of a row, in, extend, a row turned about, a tuple handed out with all that it holds, a row within a tuple changed. -/
namespace Dv
open PySem (Str)
def leastI : List Int → Option Int
  | [] => none
  | i :: is => some (is.foldl min i)
def mostI : List Int → Option Int
  | [] => none
  | i :: is => some (is.foldl max i)
def minS : List O → Option O
  | [.lst _ xs] => (asIs xs).bind fun is => (leastI is).bind fun m => some (.int m)
  | [.tup xs] => (asIs xs).bind fun is => (leastI is).bind fun m => some (.int m)
  | _ => none
def maxS : List O → Option O
  | [.lst _ xs] => (asIs xs).bind fun is => (mostI is).bind fun m => some (.int m)
  | [.tup xs] => (asIs xs).bind fun is => (mostI is).bind fun m => some (.int m)
  | _ => none
def sumS : List O → Option O
  | [.lst _ xs] => (asIs xs).bind fun is => some (.int is.sum)
  | _ => none
def memO (x : O) (ys : List O) : Bool := ys.any fun y => eqo y x
/-- x in y -/
def inD (x y : O) : Option O := match y with
  | .lst o ys => if (shO 20 x && shO 20 (.lst o ys)) = true then some (.bl (memO x ys)) else none
  | .tup ys => if (shO 20 x && shO 20 (.tup ys)) = true then some (.bl (memO x ys)) else none
  | _ => none
def notInD (x y : O) : Option O := match y with
  | .lst o ys => if (shO 20 x && shO 20 (.lst o ys)) = true then some (.bl (!memO x ys)) else none
  | .tup ys => if (shO 20 x && shO 20 (.tup ys)) = true then some (.bl (!memO x ys)) else none
  | _ => none
/-- NAME.extend(e), all items flat -/
def sExt (i : Nat) (a : SE) : SS := fun τ => (a τ).bind fun x => match x, τ[i]? with
  | .lst _ ys, some (some (.lst true xs)) => if flats xs = true ∧ flats ys = true ∧ xs.length + ys.length ≤ sLine then some (.nx (τ.set i (some (.lst true (xs ++ ys))))) else none
  | _, _ => none
/-- e[::-1] -/
def xRev (a : SE) : SE := fun τ => (a τ).bind fun x => match x with
  | .lst _ xs => some (.lst true (frzs xs).reverse)
  | _ => none
/-- an item that is only handed on where nothing in it is a view -/
def xCl (a : SE) : SE := fun τ => (a τ).bind fun o => if clean o = true then some o else none
/-- return (e, ..), names with all that they hold -/
def sRetM (r : SEs) : SS := fun τ => (r τ).bind fun os => if os.length ≤ sLine then some (.rt (.tup os)) else none
/-- NAME[k].append(e), e flat -/
def appAt (k : Int) (o : O) : O → Option O
  | .lst true xs => (at? xs k).bind fun y => match y with
    | .lst true ys => if ys.length < sLine then some (.lst true (xs.set (if 0 ≤ k then k.toNat else (k + xs.length).toNat) (.lst true (ys ++ [o])))) else none
    | _ => none
  | .tup xs => (at? xs k).bind fun y => match y with
    | .lst true ys => if ys.length < sLine then some (.tup (xs.set (if 0 ≤ k then k.toNat else (k + xs.length).toNat) (.lst true (ys ++ [o])))) else none
    | _ => none
  | _ => none
def sAppAt (i : Nat) (k : SE) (a : SE) : SS := fun τ => (k τ).bind fun z => (a τ).bind fun o => match z, τ[i]? with
  | .int k, some (some x) => if flat o = true then (appAt k o x).bind fun x' => some (.nx (τ.set i (some x'))) else none
  | _, _ => none
end Dv

end
section
set_option Elab.async false
set_option linter.all false
set_option maxRecDepth 100000
/-! Dx: the steps of Dw. -/
namespace Dv
open PySem PySem.Spec L2
open PyProof.Rows hiding St
section
variable {X : Cx} {K : PySem.W.Frag} {a b c e : Expr} {es : List Expr} {na nb nc ns ms : List Nat} {fa fb fc f g : SE} {fs gs : SEs} {pos : Pos}
/-! ### least, greatest, sum -/
def rMinT (K : PySem.W.Frag) : List V → Hp → VK → Prop := fun vs H Q => ∃ (a : Addr) (i : Int) (is : List Int), vs = [V.ref a] ∧ SqT K H a ((i :: is).map V.int) ∧ Q (.int (is.foldl min i)) H
def rMaxT (K : PySem.W.Frag) : List V → Hp → VK → Prop := fun vs H Q => ∃ (a : Addr) (i : Int) (is : List Int), vs = [V.ref a] ∧ SqT K H a ((i :: is).map V.int) ∧ Q (.int (is.foldl max i)) H
theorem ints_alike (ns : List Int) : PySem.W.AlikeAll (ns.map PyData.int) := ⟨fun x hx y hy => by
  obtain ⟨i, _, rfl⟩ := List.mem_map.mp hx
  obtain ⟨j, _, rfl⟩ := List.mem_map.mp hy
  rfl, fun x hx => by
  obtain ⟨i, _, rfl⟩ := List.mem_map.mp hx
  exact fun z => nomatch z⟩
theorem reads_int {h : Heap} {v : Value} {i : Int} {bs : List Addr} (r : Reads h v (.int i) bs) : ∃ t, v = .int i t := by
  cases r
  exact ⟨_, rfl⟩
theorem cr_minT (hc : X.calm = true) (hu : X.A.units + 64 < cLine) : CallR X (.builtin "min") (rMinT X.K) := by
  intro pins s σ H vs us Q I r h
  obtain ⟨a, i, is, rfl, hs, q⟩ := h
  obtain ⟨its, rv, hl, _⟩ := I.tuple hs
  rw [Vals.ref1 r]
  have hr : ReadsAll s.heap its.toArray.toList ((i :: is).map PyData.int) [] := reads_ints rv.ints
  refine PySem.W.min_tuple_data (I.ok.hd hc) hl (x := .int i) (xs := is.map PyData.int) hr (ints_alike (i :: is)) (by
    have := (kt_lay (i :: is)).2
    rw [List.map_cons] at this
    omega) fun j v h' tk bs _ hv hk => ?_
  rw [PySem.W.minD_ints] at hv
  obtain ⟨t, rfl⟩ := reads_int hv
  exact ⟨.int _, H, I.kept hk, ⟨_, rfl⟩, q⟩
theorem cr_maxT (hc : X.calm = true) (hu : X.A.units + 64 < cLine) : CallR X (.builtin "max") (rMaxT X.K) := by
  intro pins s σ H vs us Q I r h
  obtain ⟨a, i, is, rfl, hs, q⟩ := h
  obtain ⟨its, rv, hl, _⟩ := I.tuple hs
  rw [Vals.ref1 r]
  have hr : ReadsAll s.heap its.toArray.toList ((i :: is).map PyData.int) [] := reads_ints rv.ints
  refine PySem.W.max_tuple_data (I.ok.hd hc) hl (x := .int i) (xs := is.map PyData.int) hr (ints_alike (i :: is)) (by
    have := (kt_lay (i :: is)).2
    rw [List.map_cons] at this
    omega) fun j v h' tk bs _ hv hk => ?_
  rw [PySem.W.maxD_ints] at hv
  obtain ⟨t, rfl⟩ := reads_int hv
  exact ⟨.int _, H, I.kept hk, ⟨_, rfl⟩, q⟩
theorem foldl_min_mem : ∀ (is : List Int) (i : Int), is.foldl min i ∈ i :: is
  | [], i => List.mem_cons_self
  | j :: is, i => by
    have h := foldl_min_mem is (min i j)
    rw [List.foldl_cons]
    rcases List.mem_cons.mp h with h | h
    · rw [h]
      by_cases c : i ≤ j
      · rw [show min i j = i by omega]; exact List.mem_cons_self
      · rw [show min i j = j by omega]; exact List.mem_cons_of_mem _ List.mem_cons_self
    · exact List.mem_cons_of_mem _ (List.mem_cons_of_mem _ h)
theorem foldl_min_le : ∀ (is : List Int) (i : Int), (is.foldl min i ≤ i) ∧ ∀ j ∈ is, is.foldl min i ≤ j
  | [], i => ⟨Int.le_refl _, fun _ h => nomatch h⟩
  | j :: is, i => by
    obtain ⟨h1, h2⟩ := foldl_min_le is (min i j)
    rw [List.foldl_cons]
    refine ⟨by omega, fun k hk => ?_⟩
    rcases List.mem_cons.mp hk with rfl | hk
    · omega
    · exact h2 k hk
theorem foldl_max_mem : ∀ (is : List Int) (i : Int), is.foldl max i ∈ i :: is
  | [], i => List.mem_cons_self
  | j :: is, i => by
    have h := foldl_max_mem is (max i j)
    rw [List.foldl_cons]
    rcases List.mem_cons.mp h with h | h
    · rw [h]
      by_cases c : j ≤ i
      · rw [show max i j = i by omega]; exact List.mem_cons_self
      · rw [show max i j = j by omega]; exact List.mem_cons_of_mem _ List.mem_cons_self
    · exact List.mem_cons_of_mem _ (List.mem_cons_of_mem _ h)
theorem foldl_max_le : ∀ (is : List Int) (i : Int), (i ≤ is.foldl max i) ∧ ∀ j ∈ is, j ≤ is.foldl max i
  | [], i => ⟨Int.le_refl _, fun _ h => nomatch h⟩
  | j :: is, i => by
    obtain ⟨h1, h2⟩ := foldl_max_le is (max i j)
    rw [List.foldl_cons]
    refine ⟨by omega, fun k hk => ?_⟩
    rcases List.mem_cons.mp hk with rfl | hk
    · omega
    · exact h2 k hk
def rMinS (K : PySem.W.Frag) : List V → Hp → VK → Prop := fun vs H Q => rMin K vs H Q ∨ rMinT K vs H Q
def rMaxS (K : PySem.W.Frag) : List V → Hp → VK → Prop := fun vs H Q => rMax K vs H Q ∨ rMaxT K vs H Q
theorem c_minS (hc : X.calm = true) (hu : X.A.units + 64 < cLine) : CallR X (.builtin "min") (rMinS X.K) := (cr_min hc).or (cr_minT hc hu)
theorem c_maxS (hc : X.calm = true) (hu : X.A.units + 64 < cLine) : CallR X (.builtin "max") (rMaxS X.K) := (cr_max hc).or (cr_maxT hc hu)
theorem o_minS : OpN K minS (rMinS K) := by
  intro B H xs o vs F Q e r nd av k
  match xs, e with
  | [.lst own xs], e =>
    obtain ⟨is, h1, e⟩ := bind_some (show ((asIs xs).bind fun is => (leastI is).bind fun m => some (O.int m)) = some o from e)
    obtain ⟨m, h2, e⟩ := bind_some e
    cases e
    obtain ⟨v, rfl, r1⟩ := rps1 r
    obtain ⟨a, ws, G, rfl, h3, q, _⟩ := r1.lst_at
    have h4 := asIs_rp h1 q
    subst h4
    cases is with
    | nil => cases h2
    | cons i is =>
      cases h2
      refine .inl ⟨a, i :: is, rfl, SqL.of h3, by simp, fun m hm hle => ?_⟩
      have e1 : m = is.foldl min i := by
        have a1 := hle _ (foldl_min_mem is i)
        obtain ⟨b1, b2⟩ := foldl_min_le is i
        rcases List.mem_cons.mp hm with rfl | hm
        · omega
        · have := b2 m hm; omega
      rw [e1]
      exact done0 k ⟨rfl, rfl⟩
  | [.tup xs], e =>
    obtain ⟨is, h1, e⟩ := bind_some (show ((asIs xs).bind fun is => (leastI is).bind fun m => some (O.int m)) = some o from e)
    obtain ⟨m, h2, e⟩ := bind_some e
    cases e
    obtain ⟨v, rfl, r1⟩ := rps1 r
    obtain ⟨a, ws, rfl, h3, q⟩ := r1
    have h4 := asIs_rp h1 q
    subst h4
    cases is with
    | nil => cases h2
    | cons i is =>
      cases h2
      exact .inr ⟨a, i, is, rfl, SqT.of h3, done0 k ⟨rfl, rfl⟩⟩
theorem o_maxS : OpN K maxS (rMaxS K) := by
  intro B H xs o vs F Q e r nd av k
  match xs, e with
  | [.lst own xs], e =>
    obtain ⟨is, h1, e⟩ := bind_some (show ((asIs xs).bind fun is => (mostI is).bind fun m => some (O.int m)) = some o from e)
    obtain ⟨m, h2, e⟩ := bind_some e
    cases e
    obtain ⟨v, rfl, r1⟩ := rps1 r
    obtain ⟨a, ws, G, rfl, h3, q, _⟩ := r1.lst_at
    have h4 := asIs_rp h1 q
    subst h4
    cases is with
    | nil => cases h2
    | cons i is =>
      cases h2
      refine .inl ⟨a, i :: is, rfl, SqL.of h3, by simp, fun m hm hle => ?_⟩
      have e1 : m = is.foldl max i := by
        have a1 := hle _ (foldl_max_mem is i)
        obtain ⟨b1, b2⟩ := foldl_max_le is i
        rcases List.mem_cons.mp hm with rfl | hm
        · omega
        · have := b2 m hm; omega
      rw [e1]
      exact done0 k ⟨rfl, rfl⟩
  | [.tup xs], e =>
    obtain ⟨is, h1, e⟩ := bind_some (show ((asIs xs).bind fun is => (mostI is).bind fun m => some (O.int m)) = some o from e)
    obtain ⟨m, h2, e⟩ := bind_some e
    cases e
    obtain ⟨v, rfl, r1⟩ := rps1 r
    obtain ⟨a, ws, rfl, h3, q⟩ := r1
    have h4 := asIs_rp h1 q
    subst h4
    cases is with
    | nil => cases h2
    | cons i is =>
      cases h2
      exact .inr ⟨a, i, is, rfl, SqT.of h3, done0 k ⟨rfl, rfl⟩⟩
theorem o_sumS : OpN K sumS (rSum K) := by
  intro B H xs o vs F Q e r nd av k
  match xs, e with
  | [.lst own xs], e =>
    obtain ⟨is, h1, e⟩ := bind_some (show ((asIs xs).bind fun is => some (O.int is.sum)) = some o from e)
    cases e
    obtain ⟨v, rfl, r1⟩ := rps1 r
    obtain ⟨a, ws, G, rfl, h3, q, _⟩ := r1.lst_at
    have h4 := asIs_rp h1 q
    subst h4
    exact ⟨a, is, rfl, SqL.of h3, done0 k ⟨rfl, rfl⟩⟩
/-! ### in -/
def rInT (K : PySem.W.Frag) (neg : Bool) : R2 := fun x y H Q => ∃ d ds, Dp K H x d ∧ Dp K H y (.tuple ds) ∧ SeqAt.shaped d = true ∧ SeqAt.shaped (.tuple ds) = true ∧ Q (.bl (if neg then !ds.any fun z => PyData.eqv z d else ds.any fun z => PyData.eqv z d)) H
theorem op_inT (hu : X.A.units + 65 < cLine) : OpR X (compareOp .In) (rInT X.K false) := by
  intro pins s σ H x y v u Q I rx ry h
  obtain ⟨d, ds, hd, he, sd, se, q⟩ := h
  obtain ⟨as, r1⟩ := Dp.reads I d x v hd rx
  obtain ⟨bs, r2⟩ := Dp.reads I (.tuple ds) y u he ry
  exact SeqAt.in_tuple_reads r2 r1 (SeqAt.canLay_of_shaped se) (SeqAt.canLay_of_shaped sd) (room_in_shaped sd hu) ⟨.bl _, H, I, rfl, q⟩
theorem op_notInT (hu : X.A.units + 65 < cLine) : OpR X (compareOp .NotIn) (rInT X.K true) := by
  intro pins s σ H x y v u Q I rx ry h
  obtain ⟨d, ds, hd, he, sd, se, q⟩ := h
  obtain ⟨as, r1⟩ := Dp.reads I d x v hd rx
  obtain ⟨bs, r2⟩ := Dp.reads I (.tuple ds) y u he ry
  exact SeqAt.notIn_tuple_reads r2 r1 (SeqAt.canLay_of_shaped se) (SeqAt.canLay_of_shaped sd) (room_in_shaped sd hu) ⟨.bl _, H, I, rfl, q⟩
def rIn2 (K : PySem.W.Frag) : R2 := fun x y H Q => rInD K x y H Q ∨ rInT K false x y H Q
def rNot2 (K : PySem.W.Frag) : R2 := fun x y H Q => rNotInD K x y H Q ∨ rInT K true x y H Q
theorem r_in (hu : X.A.units + 65 < cLine) : OpR X (compareOp .In) (rIn2 X.K) := (op_inD hu).or (op_inT hu)
theorem r_notIn (hu : X.A.units + 65 < cLine) : OpR X (compareOp .NotIn) (rNot2 X.K) := (op_notInD hu).or (op_notInT hu)
theorem any_py {n : Nat} {x : O} (hx : shO n x = true) : ∀ {m : Nat} {ys : List O}, ys.all (shO m) = true → ((toPys ys).any fun z => PyData.eqv z (toPy x)) = memO x ys
  | _, [], _ => rfl
  | m, y :: ys, h => by
    rw [List.all_cons, Bool.and_eq_true] at h
    show (PyData.eqv (toPy y) (toPy x) || (toPys ys).any fun z => PyData.eqv z (toPy x)) = (eqo y x || ys.any fun y => eqo y x)
    rw [eqo_py y x h.1 hx, any_py hx h.2]
    rfl
theorem inD_some {x y o : O} (h : inD x y = some o) : shO 20 x = true ∧ shO 20 y = true ∧ ∃ ys, ((∃ w, y = .lst w ys) ∨ y = .tup ys) ∧ o = .bl (memO x ys) := by
  unfold inD at h
  split at h
  · split at h
    · rename_i w ys c
      cases h
      rw [Bool.and_eq_true] at c
      exact ⟨c.1, c.2, ys, .inl ⟨w, rfl⟩, rfl⟩
    · cases h
  · split at h
    · rename_i ys c
      cases h
      rw [Bool.and_eq_true] at c
      exact ⟨c.1, c.2, ys, .inr rfl, rfl⟩
    · cases h
  · cases h
theorem notInD_some {x y o : O} (h : notInD x y = some o) : shO 20 x = true ∧ shO 20 y = true ∧ ∃ ys, ((∃ w, y = .lst w ys) ∨ y = .tup ys) ∧ o = .bl (!memO x ys) := by
  unfold notInD at h
  split at h
  · split at h
    · rename_i w ys c
      cases h
      rw [Bool.and_eq_true] at c
      exact ⟨c.1, c.2, ys, .inl ⟨w, rfl⟩, rfl⟩
    · cases h
  · split at h
    · rename_i ys c
      cases h
      rw [Bool.and_eq_true] at c
      exact ⟨c.1, c.2, ys, .inr rfl, rfl⟩
    · cases h
  · cases h
theorem o_in : Op2 K inD (rIn2 K) := by
  intro B H x y o v1 v2 F1 F2 Q e r1 r2 nd av k
  obtain ⟨sx, sy, ys, hy, rfl⟩ := inD_some e
  have ha : ys.all (shO 19) = true := by rcases hy with ⟨w, rfl⟩ | rfl <;> exact sy
  have q : Q (.bl ((toPys ys).any fun z => PyData.eqv z (toPy x))) H := by rw [any_py sx ha]; exact done0 k ⟨rfl, rfl⟩
  rcases hy with ⟨w, rfl⟩ | rfl
  · exact .inl ⟨_, _, r1.dp sx, r2.dp sy, shaped_of sx, shaped_of sy, q⟩
  · exact .inr ⟨_, _, r1.dp sx, r2.dp sy, shaped_of sx, shaped_of sy, q⟩
theorem o_notIn : Op2 K notInD (rNot2 K) := by
  intro B H x y o v1 v2 F1 F2 Q e r1 r2 nd av k
  obtain ⟨sx, sy, ys, hy, rfl⟩ := notInD_some e
  have ha : ys.all (shO 19) = true := by rcases hy with ⟨w, rfl⟩ | rfl <;> exact sy
  have q : Q (.bl (!(toPys ys).any fun z => PyData.eqv z (toPy x))) H := by rw [any_py sx ha]; exact done0 k ⟨rfl, rfl⟩
  rcases hy with ⟨w, rfl⟩ | rfl
  · exact .inl ⟨_, _, r1.dp sx, r2.dp sy, shaped_of sx, shaped_of sy, q⟩
  · exact .inr ⟨_, _, r1.dp sx, r2.dp sy, shaped_of sx, shaped_of sy, q⟩
/-! ### a tuple of the written part, by its name -/
theorem de_kt {x : Str} {t : Addr} {is : List Int} (hg : Gl X x) (hm : X.mg x = some (.ref t)) (h : KTup X.K t (is.map V.int)) (hd : (x == ("__debug__" : Str)) = false := by decide) : DE X [] (.Name x pos) (xC (.kt is)) :=
  de_const (pe_glob hg hm (show RelV (.ref t) (.ref t) from rfl) hd) fun _ _ => ⟨t, rfl, rfl, h⟩
theorem de_ktE {x : Str} {is : List Int} (hg : Gl X x) (h : ∃ t, X.mg x = some (.ref t) ∧ KTup X.K t (is.map V.int)) (hd : (x == ("__debug__" : Str)) = false := by decide) : DE X [] (.Name x pos) (xC (.kt is)) := by
  obtain ⟨t, h1, h2⟩ := h
  exact de_kt hg h1 h2 hd
theorem u65 {k : Nat} {A : Around} (r : Room k A) : A.units + 65 < cLine := by have := r.un; omega
/-! ### e[::-1] -/
theorem Rps.rev : ∀ {os : List O} {vs : List V} {B : Addr → Prop} {H : Hp}, Rps K H B os vs [] → Rps K H B os.reverse vs.reverse []
  | [], _, _, _, h => by obtain ⟨rfl, _⟩ := h; exact ⟨rfl, rfl⟩
  | o :: os, _, B, H, h => by
    obtain ⟨v, vr, F1, F2, rfl, e, h3, h4⟩ := h
    obtain ⟨rfl, rfl⟩ := List.append_eq_nil_iff.mp e.symm
    rw [List.reverse_cons, List.reverse_cons]
    exact (Rps.rev h4).append ⟨v, [], [], [], rfl, rfl, h3, rfl, rfl⟩
theorem de_rev {p1 p2 p3 : Pos} {kk} (he : DE X ns e f) : DE X ns (.Subscript e (.Slice none none (some (.UnaryOp .USub (.Constant (.int 1) kk p1) p2)) p3) pos) (xRev f) := by
  refine (pe_revL he).byD fun σ H Q h => ?_
  obtain ⟨H0, B0, τ, Fs, o, rs, ho, k⟩ := h
  obtain ⟨x, hx, ho⟩ := bind_some ho
  refine ⟨H0, B0, τ, Fs, x, rs, hx, fun v1 H1 F1 s1 r1 n1 f1 => ?_⟩
  cases x with
  | lst own xs =>
    cases ho
    obtain ⟨a, vs, e1, h1, _, q⟩ := rp_items r1 fun z w => avB rs (f1 z w)
    refine ⟨a, vs, e1, SqL.of h1, fun p hp => ?_⟩
    obtain ⟨n3, n4⟩ := new_lst (B := Av B0 ns Fs) hp (Rps.rev q).nilF List.nodup_nil
    exact k (.ref p) _ [p] (s1.trans (same_upd hp)) n3 n4 fun z w => by rw [List.mem_singleton.mp w]; exact s1.free hp
  | _ => cases ho
/-! ### NAME.extend(e) -/
theorem sExt_some {i : Nat} {τ : Sl} {x : O} {r : Fl} (q : (match x, τ[i]? with
  | .lst _ ys, some (some (O.lst true xs)) => if flats xs = true ∧ flats ys = true ∧ xs.length + ys.length ≤ sLine then some (Fl.nx (τ.set i (some (.lst true (xs ++ ys))))) else none
  | _, _ => none) = some r) : ∃ w xs ys, x = .lst w ys ∧ τ[i]? = some (some (.lst true xs)) ∧ flats xs = true ∧ flats ys = true ∧ xs.length + ys.length ≤ sLine ∧ r = .nx (τ.set i (some (.lst true (xs ++ ys)))) := by
  split at q
  · rename_i w ys xs hx
    split at q
    · rename_i c
      cases q
      exact ⟨w, _, _, rfl, hx, c.1, c.2.1, c.2.2, rfl⟩
    · cases q
  · cases q
theorem ds_ext (i : Nat) {x : Str} {p pa pp : Pos} (he : DE X ns e f) (hi : X.N[i]? = some x := by rfl) (hv : Vis X.env.scope x := by first | exact Or.inl rfl | exact Or.inr (Or.inl rfl) | exact Or.inr (Or.inr rfl))
    (hd : (x == ("__debug__" : Str)) = false := by decide) (hcd : (x == ("__classdict__" : Str)) = false := by decide)
    (hbase : attributeBase (.Name x p) "extend" X.env (eval (.Name x p) X.env) = eval (.Name x p) X.env := by rfl)
    (hfew : ((backTo pp (starEach [e] X.env)).all (fun x => !x.1) && (backToKw pp (keywordEach [] X.env)).all (fun x => x.1.isSome)
      && decide ([e].length + ([] : List Keyword).length + (if ([] : List Keyword).isEmpty then 0 else 1) < 30)) = true := by rfl)
    (hline : (pa.endLine == pp.line) = true := by rfl) (hs : starEach [e] X.env = (false, eval e X.env) :: starEach [] X.env := by rfl) (hpl : (backTo pp (starEach [] X.env)).any (·.1) = false := by rfl)
    (hsw : swapsWith (.Call (.Attribute (.Name x p) "extend" pa) [e] [] pp) none pos.line X.env = pure false := by rfl) :
    DS X (.Expr (.Call (.Attribute (.Name x p) "extend" pa) [e] [] pp) pos) (sExt i f) := by
  refine (ps_expr (pe_bm PySem.F.plainAttrs_list PySem.F.slot_list_extend PySem.F.type_list_extend mt_extend (pe_var hi hv hd hcd) (pa_cons he pa_nil hs) hbase hfew hline hs hpl) hsw).byD fun D σ H hh => ?_
  obtain ⟨H0, B0, τ, Fs, r, rs, hr, k⟩ := hh
  obtain ⟨y, hy, hr⟩ := bind_some hr
  obtain ⟨w, xs, ys, rfl, hx, fx, fy, hl, rfl⟩ := sExt_some hr
  obtain ⟨q, vs, G, q1, q2, q3, q4, _⟩ := rs.lst hx
  have eG := q4.flatF fx
  subst eG
  refine ⟨.ref q, q1, .inl ⟨rfl, vs, SqL.of q3⟩, H0, B0, τ, Fs, _, rs, hy, fun v1 H1 F1 s1 r1 n1 f1 => ?_⟩
  obtain ⟨b, ws, G1, rfl, h1, r2, _, _⟩ := r1.lst_at
  have r3 : Rps X.K H1 (Bor (fun a => B0 a ∨ a ∈ Fs.flatten) []) (xs ++ ys) (vs ++ ws) [] := ((q4.same s1).fl fx).append (r2.fl fy)
  obtain ⟨rs2, st2⟩ := rs.lupd (xs := xs) q2 q1 s1 r3 (by simp) fun a z => nomatch z
  exact ⟨q, b, vs, ws, rfl, rfl, s1 _ _ q3, h1, by rw [← q4.len, ← r2.len]; exact hl, k σ _ _ rs2 st2⟩
/-! ### return (e, ..) with all that the names hold -/
def tM (K : PySem.W.Frag) (ms : List Nat) (f : SEs) : TA := fun σ H Q => ∃ H0 B0 τ Fs os, RS K H0 B0 H σ τ Fs ∧ f τ = some os ∧
  ∀ vs H' F, Same H H' → Rps K H' (Bor (fun a => B0 a ∨ a ∈ Fs.flatten) F) os vs F → F.Nodup → (∀ a ∈ F, (∃ j ∈ ms, ∃ G, Fs[j]? = some G ∧ a ∈ G) ∨ H a = none) → Q vs H'
abbrev DM (X : Cx) (ms : List Nat) (e : List Expr) (f : SEs) : Prop := PA X e (tM X.K ms f)
theorem dm_nil : DM X [] [] xsN := by
  refine pa_nil.byD fun σ H Q h => ?_
  obtain ⟨H0, B0, τ, Fs, o', rs, ho, k⟩ := h
  cases ho
  exact k [] H [] (Same.refl H) ⟨rfl, rfl⟩ List.nodup_nil fun a z => nomatch z
theorem dm_clean (ha : DE X na a fa) (hr : DM X ms es fs) (hs : starEach (a :: es) X.env = (false, eval a X.env) :: starEach es X.env := by rfl) : DM X ms (a :: es) (xsC (xCl fa) fs) := by
  refine (pa_cons ha hr hs).byD fun σ H Q h => ?_
  obtain ⟨H0, B0, τ, Fs, os, rs, ho, k⟩ := h
  obtain ⟨x, hx, ho⟩ := bind_some ho
  obtain ⟨xs, hxs, ho⟩ := bind_some ho
  cases ho
  obtain ⟨x', hx', hx⟩ := bind_some (show ((fa τ).bind fun o => if clean o = true then some o else none) = some x from hx)
  split at hx
  · rename_i cl
    cases hx
    refine ⟨H0, B0, τ, Fs, x, rs, hx', fun v1 H1 F1 s1 r1 n1 f1 => ⟨H0, Bor B0 F1, τ, Fs, xs, rs.more s1 r1.own f1, hxs, fun vs H2 F2 s2 r2 n2 f2 => ?_⟩⟩
    have f2' : ∀ a ∈ F2, (∃ j ∈ ms, ∃ G, Fs[j]? = some G ∧ a ∈ G) ∨ H1 a = none := f2
    have nd : (F1 ++ F2).Nodup := List.nodup_append.mpr ⟨n1, n2, fun p z q w e => by
      subst e
      rcases f2' p w with ⟨j, _, G, hG, hp⟩ | hp
      · exact mut_some (rs.mutF (mem_flat hG hp)) (f1 p z)
      · exact mut_some (r1.own p z) hp⟩
    refine k (v1 :: vs) H2 (F1 ++ F2) (s1.trans s2) ⟨v1, vs, F1, F2, rfl, rfl, (r1.same s2).clean cl, r2.avoid fun p ne np z => ?_⟩ nd fun p z => ?_
    · rcases z with z | z
      · exact np (.inl (z.imp .inl id))
      · rcases List.mem_append.mp z with z | z
        · exact np (.inl (.inl (.inr z)))
        · exact np (.inr z)
    · rcases List.mem_append.mp z with z | z
      · exact .inr (f1 p z)
      · exact (f2' p z).imp id s1.free
  · cases hx
/-- a name: with all that it holds -/
theorem dm_name (i : Nat) {x : Str} {p : Pos} (hr : DM X ms es fs) (hni : i ∉ ms) (hN : X.N[i]? = some x := by rfl) (hv : Vis X.env.scope x := by first | exact Or.inl rfl | exact Or.inr (Or.inl rfl) | exact Or.inr (Or.inr rfl)) (hd : (x == ("__debug__" : Str)) = false := by decide)
    (hcd : (x == ("__classdict__" : Str)) = false := by decide) (hs : starEach (.Name x p :: es) X.env = (false, eval (.Name x p) X.env) :: starEach es X.env := by rfl) : DM X (i :: ms) (.Name x p :: es) (xsC (get i) fs) := by
  refine (pa_cons (pe_var hN hv hd hcd) hr hs).byD fun σ H Q h => ?_
  obtain ⟨H0, B0, τ, Fs, os, rs, ho, k⟩ := h
  obtain ⟨o, hx, ho⟩ := bind_some ho
  obtain ⟨xs, hxs, ho⟩ := bind_some ho
  cases ho
  have hτ : τ[i]? = some (some o) := by
    unfold get at hx
    cases q : τ[i]? with
    | none => rw [q] at hx; cases hx
    | some s => cases s with
      | none => rw [q] at hx; cases hx
      | some o' => rw [q] at hx; cases hx; rfl
  obtain ⟨v, F1, e1, e2, r1⟩ := rs.slot i o hτ
  refine ⟨v, e1, H0, B0, τ, Fs, xs, rs, hxs, fun vs H2 F2 s2 r2 n2 f2 => ?_⟩
  have ap : ∀ a ∈ F1, a ∉ F2 := fun a z q => by
    rcases f2 a q with ⟨j, hj, G, hG, hp⟩ | hp
    · exact hni (nodup_one rs.nodup e2 hG z hp ▸ hj)
    · exact mut_some (rs.mutF (mem_flat e2 z)) hp
  refine k (v :: vs) H2 (F1 ++ F2) s2 ⟨v, vs, F1, F2, rfl, rfl, (r1.avoid fun a ne na z => ?_).same s2, r2.mono fun a z => ?_⟩ (List.nodup_append.mpr ⟨nodup_part rs.nodup e2, n2, fun a z b w e => ap a z (e ▸ w)⟩) fun a z => ?_
  · rcases z with z | z
    · exact na z
    · rcases List.mem_append.mp z with z | z
      · exact na (.inr (mem_flat e2 z))
      · rcases f2 a z with ⟨j, hj, G, hG, hp⟩ | hp
        · exact na (.inr (mem_flat hG hp))
        · exact ne hp
  · rcases z with z | z
    · exact .inl z
    · rcases List.mem_append.mp z with z | z
      · exact .inl (.inr (mem_flat e2 z))
      · exact .inr z
  · rcases List.mem_append.mp z with z | z
    · exact .inl ⟨i, List.mem_cons_self, F1, e2, z⟩
    · exact (f2 a z).imp (fun ⟨j, hj, w⟩ => ⟨j, List.mem_cons_of_mem _ hj, w⟩) id
theorem ds_retM {x1 p2} (h : DM X ms es fs) : DS X (.Return (some (.Tuple es x1 p2)) pos) (sRetM fs) := by
  refine (ps_ret (pe_tup h)).byD fun D σ H hh => ?_
  obtain ⟨H0, B0, τ, Fs, r, rs, hr, k⟩ := hh
  obtain ⟨os, hos, hr⟩ := bind_some hr
  split at hr
  · rename_i hl
    cases hr
    refine ⟨H0, B0, τ, Fs, os, rs, hos, fun vs H1 F s1 r1 n1 f1 => ⟨by rw [← r1.len]; exact hl, fun p hp => ?_⟩⟩
    have s2 : Same H (L2.upd H1 p (.tup vs)) := s1.trans (same_upd hp)
    refine k (.ref p) _ F (rs.same.trans s2) ⟨p, vs, rfl, upd_same, (r1.mono fun a z => z.imp .inl id).same (same_upd hp)⟩ n1 fun a z => ?_
    rcases f1 a z with ⟨j, _, G, hG, hp'⟩ | hp'
    · exact rs.fresh a (mem_flat hG hp')
    · exact rs.same.free hp'
  · cases hr
/-! ### NAME[k].append(e) -/
/-- p, held within F, is written: what else is within stands -/
theorem Rp.other {B : Addr → Prop} {H : Hp} {o : O} {v : V} {F : List Addr} {p : Addr} {u : HO} (h : Rp K H B o v F) (bp : B p) (mp : Mut (H p)) (np : p ∉ F) : Rp K (L2.upd H p u) B o v F :=
  Rp.ext (C := fun a => a = p) (fun a o n e => by rw [upd_ne n]; exact e) (fun a z => by rw [z]; exact mp) (fun a z => by rw [z]; exact bp) (fun a z o q => by rw [upd_ne (fun (w : a = p) => np (w ▸ z))]; exact q) h
theorem Rps.other {B : Addr → Prop} {H : Hp} {o : List O} {v : List V} {F : List Addr} {p : Addr} {u : HO} (h : Rps K H B o v F) (bp : B p) (mp : Mut (H p)) (np : p ∉ F) : Rps K (L2.upd H p u) B o v F :=
  Rps.ext (C := fun a => a = p) (fun a o n e => by rw [upd_ne n]; exact e) (fun a z => by rw [z]; exact mp) (fun a z => by rw [z]; exact bp) (fun a z o q => by rw [upd_ne (fun (w : a = p) => np (w ▸ z))]; exact q) h
/-- item j is the own list ys at p; o is put behind it -/
theorem Rps.app {B : Addr → Prop} {H : Hp} {ys : List O} {o : O} : ∀ {os : List O} {vs : List V} {F : List Addr} {j : Nat}, Rps K H B os vs F → os[j]? = some (.lst true ys) → (∀ a ∈ F, B a) → F.Nodup →
    ∃ p ws, vs[j]? = some (.ref p) ∧ H p = some (.lst ws) ∧ ws.length = ys.length ∧ p ∈ F ∧ ∀ H' u, Same H H' → Rp K H' B o u [] → Rps K (L2.upd H' p (.lst (ws ++ [u]))) B (os.set j (.lst true (ys ++ [o]))) vs F
  | [], _, _, _, h, e, _, _ => by simp at e
  | x :: os, vs, F, 0, h, e, b, n => by
    obtain ⟨v, vr, F1, F2, rfl, rfl, h3, h4⟩ := h
    have e : x = .lst true ys := Option.some.inj e
    subst e
    obtain ⟨p, ws, G, rfl, h5, rfl, h7⟩ := h3
    rw [List.nodup_append] at n
    have pB : B p := b p (List.mem_append_left _ List.mem_cons_self)
    have np : p ∉ F2 := fun z => n.2.2 p List.mem_cons_self p z rfl
    have ng : p ∉ G := (List.nodup_cons.mp n.1).1
    refine ⟨p, ws, rfl, h5, h7.len.symm, List.mem_append_left _ List.mem_cons_self, fun H' u s ru => ?_⟩
    have mp : Mut (H' p) := by rw [s _ _ h5]; trivial
    have r2 := ((h7.same s).other (u := .lst (ws ++ [u])) pB mp ng).append (show Rps K (L2.upd H' p (.lst (ws ++ [u]))) B [o] [u] [] from ⟨u, [], [], [], rfl, rfl, ru.other pB mp (by simp), rfl, rfl⟩)
    rw [List.append_nil] at r2
    exact ⟨.ref p, vr, p :: G, F2, rfl, rfl, ⟨p, _, G, rfl, upd_same, rfl, r2⟩, (h4.same s).other pB mp np⟩
  | x :: os, vs, F, j + 1, h, e, b, n => by
    obtain ⟨v, vr, F1, F2, rfl, rfl, h3, h4⟩ := h
    rw [List.nodup_append] at n
    obtain ⟨p, ws, q1, q2, q3, q4, q5⟩ := Rps.app (o := o) h4 (j := j) e (fun a z => b a (List.mem_append_right _ z)) n.2.1
    have pB : B p := b p (List.mem_append_right _ q4)
    have np : p ∉ F1 := fun z => n.2.2 p z p q4 rfl
    exact ⟨p, ws, q1, q2, q3, List.mem_append_right _ q4, fun H' u s ru => ⟨v, vr, F1, F2, rfl, rfl, (h3.same s).other pB (by rw [s _ _ q2]; trivial) np, q5 H' u s ru⟩⟩
theorem at_ix' {α : Type} {xs : List α} {i : Int} {o : α} (h : at? xs i = some o) : ixN xs.length i = some (if 0 ≤ i then i.toNat else (i + xs.length).toNat) ∧ xs[if 0 ≤ i then i.toNat else (i + xs.length).toNat]? = some o := by
  unfold at? at h
  unfold ixN
  by_cases h0 : 0 ≤ i
  · rw [if_pos h0] at h
    obtain ⟨h1, _⟩ := List.getElem?_eq_some_iff.mp h
    rw [if_pos h0, if_pos h0, if_pos (by omega)]
    exact ⟨rfl, h⟩
  · rw [if_neg h0] at h
    by_cases h1 : -(xs.length : Int) ≤ i
    · rw [if_pos h1] at h
      rw [if_neg h0, if_neg h0, if_pos h1]
      exact ⟨rfl, h⟩
    · rw [if_neg h1] at h; cases h
theorem Rps.F_B {B : Addr → Prop} {F : List Addr} (a : Addr) (z : a ∈ F) : Bor B F a := .inr z
/-- what NAME[k].append(e) does to what the name holds -/
theorem appAt_ok {B : Addr → Prop} {H : Hp} {x x' o : O} {v : V} {F : List Addr} {k : Int} (h : Rp K H B x v F) (hB : ∀ a ∈ F, B a) (n : F.Nodup) (e : appAt k o x = some x') :
    ∃ a vs p ws, v = .ref a ∧ (H a = some (.lst vs) ∨ H a = some (.tup vs)) ∧ atI vs k = some (.ref p) ∧ H p = some (.lst ws) ∧ ws.length < sLine ∧ p ∈ F ∧ ∀ H' u, Same H H' → Rp K H' B o u [] → Rp K (L2.upd H' p (.lst (ws ++ [u]))) B x' v F := by
  unfold appAt at e
  split at e
  · rename_i xs
    obtain ⟨y, hy, e⟩ := bind_some e
    split at e
    · rename_i ys
      split at e
      · rename_i hl
        cases e
        obtain ⟨a, vs, G, rfl, h2, rfl, h4⟩ := h
        obtain ⟨i1, i2⟩ := at_ix' hy
        have n' := List.nodup_cons.mp n
        obtain ⟨p, ws, q1, q2, q3, q4, q5⟩ := Rps.app (o := o) h4 i2 (fun b z => hB b (List.mem_cons_of_mem _ z)) n'.2
        refine ⟨a, vs, p, ws, rfl, .inl h2, ?_, q2, by rw [q3]; exact hl, List.mem_cons_of_mem _ q4, fun H' u s ru => ?_⟩
        · unfold atI
          rw [← h4.len, i1]
          exact q1
        · refine ⟨a, vs, G, rfl, ?_, rfl, q5 H' u s ru⟩
          rw [upd_ne (fun (z : a = p) => n'.1 (z ▸ q4))]
          exact s _ _ h2
      · cases e
    · cases e
  · rename_i xs
    obtain ⟨y, hy, e⟩ := bind_some e
    split at e
    · rename_i ys
      split at e
      · rename_i hl
        cases e
        obtain ⟨a, vs, rfl, h2, h4⟩ := h
        obtain ⟨i1, i2⟩ := at_ix' hy
        obtain ⟨p, ws, q1, q2, q3, q4, q5⟩ := Rps.app (o := o) h4 i2 hB n
        refine ⟨a, vs, p, ws, rfl, .inr h2, ?_, q2, by rw [q3]; exact hl, q4, fun H' u s ru => ?_⟩
        · unfold atI
          rw [← h4.len, i1]
          exact q1
        · refine ⟨a, vs, rfl, ?_, q5 H' u s ru⟩
          rw [upd_ne (fun (z : a = p) => by rw [z, q2] at h2; cases h2)]
          exact s _ _ h2
      · cases e
    · cases e
  · cases e
theorem sAppAt_some {i : Nat} {τ : Sl} {z o : O} {r : Fl} (q : (match z, τ[i]? with
  | .int k, some (some x) => if flat o = true then (appAt k o x).bind fun x' => some (Fl.nx (τ.set i (some x'))) else none
  | _, _ => none) = some r) : ∃ k x x', z = .int k ∧ τ[i]? = some (some x) ∧ flat o = true ∧ appAt k o x = some x' ∧ r = .nx (τ.set i (some x')) := by
  split at q
  · rename_i k x hx
    split at q
    · rename_i c
      obtain ⟨x', h1, q⟩ := bind_some q
      cases q
      exact ⟨k, x, x', rfl, hx, c, h1, rfl⟩
    · cases q
  · cases q
theorem ds_appAt (i : Nat) {x : Str} {p pa pp p9 : Pos} (hb : DE X nb b fb) (he : DE X ns e f) (hpl' : PlainIx b) (hi : X.N[i]? = some x := by rfl) (hv : Vis X.env.scope x := by first | exact Or.inl rfl | exact Or.inr (Or.inl rfl) | exact Or.inr (Or.inr rfl))
    (hd : (x == ("__debug__" : Str)) = false := by decide) (hcd : (x == ("__classdict__" : Str)) = false := by decide)
    (hbase : attributeBase (.Subscript (.Name x p) b p9) "append" X.env (eval (.Subscript (.Name x p) b p9) X.env) = eval (.Subscript (.Name x p) b p9) X.env := by rfl)
    (hfew : ((backTo pp (starEach [e] X.env)).all (fun x => !x.1) && (backToKw pp (keywordEach [] X.env)).all (fun x => x.1.isSome)
      && decide ([e].length + ([] : List Keyword).length + (if ([] : List Keyword).isEmpty then 0 else 1) < 30)) = true := by rfl)
    (hline : (pa.endLine == pp.line) = true := by rfl) (hs : starEach [e] X.env = (false, eval e X.env) :: starEach [] X.env := by rfl) (hpl : (backTo pp (starEach [] X.env)).any (·.1) = false := by rfl)
    (hsw : swapsWith (.Call (.Attribute (.Subscript (.Name x p) b p9) "append" pa) [e] [] pp) none pos.line X.env = pure false := by rfl) :
    DS X (.Expr (.Call (.Attribute (.Subscript (.Name x p) b p9) "append" pa) [e] [] pp) pos) (sAppAt i fb f) := by
  refine (ps_expr (pe_bm PySem.F.plainAttrs_list PySem.F.slot_list_append PySem.F.type_list_append mt_append (pe_ix ix_D (pe_var hi hv hd hcd) hb hpl') (pa_cons he pa_nil hs) hbase hfew hline hs hpl) hsw).byD fun D σ H hh => ?_
  obtain ⟨H0, B0, τ, Fs, r, rs, hr, k⟩ := hh
  obtain ⟨z, hz, hr⟩ := bind_some hr
  obtain ⟨o, ho, hr⟩ := bind_some hr
  obtain ⟨kk, y, y', rfl, hx, fo, hy, rfl⟩ := sAppAt_some hr
  obtain ⟨v, F, e1, e2, r1⟩ := rs.slot i y hx
  refine ⟨v, e1, H0, B0, τ, Fs, _, rs, hz, fun v2 H1 F2 s1 r2 n2 f2 => ?_⟩
  obtain ⟨rfl, _⟩ := r2
  have nF := nodup_part rs.nodup e2
  obtain ⟨a, vs, q, ws, rfl, h2, h3, h4, h5, h6, h7⟩ := appAt_ok (r1.same s1) (fun a z => .inr (mem_flat e2 z)) nF hy
  have last : tE X.K ns f σ H1 fun y1 H2 => rAppend (.ref q) [y1] H2 fun _ H3 => D.nx σ H3 := by
    refine ⟨H0, B0, τ, Fs, o, rs.go s1, ho, fun v1 H2 F3 s2 r3 n3 f3 => ?_⟩
    obtain ⟨rs2, st2⟩ := rs.upd e2 h6 e1 (s1.trans s2) ((h7 H2 v1 s2 (r3.fl fo)).mono fun a z => z.elim id fun z => .inr (mem_flat e2 z)) nF fun a z => .inl z
    exact ⟨q, ws, v1, rfl, rfl, s2 _ _ h4, h5, k σ _ _ rs2 st2⟩
  rcases h2 with h2 | h2
  · exact .inl ⟨a, vs, kk, .ref q, rfl, rfl, SqL.of h2, h3, .inl ⟨rfl, ws, SqL.of h4⟩, last⟩
  · exact .inr ⟨a, vs, kk, .ref q, rfl, rfl, SqT.of h2, h3, .inl ⟨rfl, ws, SqL.of h4⟩, last⟩
end
end Dv

end
section
set_option Elab.async false
set_option linter.all false
set_option maxRecDepth 100000
/-! Dy: a loop over a list that its name holds alone: the name has it back after the loop. -/
namespace Dv
open PySem PySem.Spec L2
open PyProof.Rows hiding St
open Classical in
/-- for .. in it, it made by reading the slot i, whose list the body leaves alone -/
noncomputable def sForA (i : Nat) (it : SEs) (g : TGd) (b : SS) : SS := fun τ => match τ[i]? with
  | some (some (.lst true xs)) => (it τ).bind fun ys =>
      if h : flats (frzs ys) = true ∧ ∃ τ' : Sl, i < τ'.length ∧ ∀ a : Nat, forD g b (frzs ys) (τ.set i (some (.anc a))) = some (.nx (τ'.set i (some (.anc a)))) then some (.nx (h.2.choose.set i (some (.lst true xs)))) else none
  | _ => none
theorem sForA_nx {i : Nat} {it : SEs} {g : TGd} {b : SS} {τ τ' : Sl} {xs ys : List O} (h : τ[i]? = some (some (.lst true xs))) (hi : it τ = some ys) (hl : i < τ'.length) (hf : flats (frzs ys) = true) (k : ∀ a : Nat, forD g b (frzs ys) (τ.set i (some (.anc a))) = some (.nx (τ'.set i (some (.anc a))))) : sForA i it g b τ = some (.nx (τ'.set i (some (.lst true xs)))) := by
  unfold sForA
  rw [h]
  simp only
  rw [hi, Option.bind_some]
  have ex : ∃ τ' : Sl, i < τ'.length ∧ ∀ a : Nat, forD g b (frzs ys) (τ.set i (some (.anc a))) = some (.nx (τ'.set i (some (.anc a)))) := ⟨τ', hl, k⟩
  rw [dif_pos (show _ ∧ _ from ⟨hf, ex⟩)]
  have e := (ex.choose_spec.2 0).symm.trans (k 0)
  injection e with e
  injection e with e
  have e2 := congrArg (fun z => z.set i (some (.lst true xs))) e
  simp only [List.set_set] at e2
  rw [e2]
mutual
theorem Rp.flatB {K : PySem.W.Frag} {H : Hp} {B B' : Addr → Prop} : ∀ {o : O} {v : V} {F : List Addr}, flat o = true → Rp K H B o v F → Rp K H B' o v F
  | .non, _, _, _, h => h
  | .bl _, _, _, _, h => h
  | .int _, _, _, _, h => h
  | .str _, _, _, _, h => h
  | .scr _, _, _, _, h => h
  | .kt _, _, _, _, h => h
  | .anc _, _, _, _, h => h
  | .tup _, _, _, f, h => by
    obtain ⟨a, vs, e, h2, q⟩ := h
    exact ⟨a, vs, e, h2, Rps.flatB f q⟩
  | .lst _ _, _, _, f, _ => nomatch f
  | .dK _ _ _, _, _, f, _ => nomatch f
  | .dT _ _ _, _, _, f, _ => nomatch f
theorem Rps.flatB {K : PySem.W.Frag} {H : Hp} {B B' : Addr → Prop} : ∀ {os : List O} {vs : List V} {F : List Addr}, flats os = true → Rps K H B os vs F → Rps K H B' os vs F
  | [], _, _, _, h => h
  | o :: os, _, _, f, h => by
    obtain ⟨v, vr, F1, F2, e1, e2, h1, h2⟩ := h
    have f : (flat o && flats os) = true := f
    rw [Bool.and_eq_true] at f
    exact ⟨v, vr, F1, F2, e1, e2, Rp.flatB f.1 h1, Rps.flatB f.2 h2⟩
end
section
variable {K : PySem.W.Frag} {H0 H H1 H2 : Hp} {B0 : Addr → Prop} {σ : St} {τ : Sl} {Fs : List (List Addr)}
theorem RS.lend (rs : RS K H0 B0 H σ τ Fs) {i : Nat} {F : List Addr} {a : Addr} (hl : i < τ.length) (hσ : σ[i]? = some (some (.ref a))) (hF : Fs[i]? = some F) : RS K H0 (Bor B0 F) H σ (τ.set i (some (.anc a))) (Fs.set i []) := by
  have sub : ∀ x, x ∈ (Fs.set i []).flatten → ∃ (j : Nat) (G : List Addr), i ≠ j ∧ Fs[j]? = some G ∧ x ∈ G := fun x z => by
    rcases flat_set z with z | ⟨j, G, n, e, z⟩
    · cases z
    · exact ⟨j, G, Ne.symm n, e, z⟩
  refine ⟨rs.same, fun x z => ?_, fun x z q => ?_, by rw [List.length_set, List.length_set]; exact rs.len, by rw [List.length_set]; exact rs.lenσ, set_nodup rs.nodup List.nodup_nil (fun x z => nomatch z), fun x z => ?_, fun j o h => ?_, fun j h => ?_⟩
  · rcases z with z | z
    · exact rs.old x z
    · exact rs.mutF (mem_flat hF z)
  · obtain ⟨j, G, n, e, z⟩ := sub x z
    rcases q with q | q
    · exact rs.sep x (mem_flat e z) q
    · exact n (nodup_one rs.nodup hF e q z)
  · obtain ⟨j, G, n, e, z⟩ := sub x z
    exact rs.fresh x (mem_flat e z)
  · by_cases hj : i = j
    · subst hj
      rw [List.getElem?_set_self hl] at h
      cases h
      exact ⟨.ref a, [], hσ, List.getElem?_set_self (by rw [rs.len]; exact hl), rfl, rfl⟩
    · rw [List.getElem?_set_ne hj] at h
      obtain ⟨v, G, h1, h2, h3⟩ := rs.slot j o h
      refine ⟨v, G, h1, by rw [List.getElem?_set_ne hj]; exact h2, h3.mono fun x z => ?_⟩
      rcases z with (z | z) | z
      · exact .inl z
      · exact .inr (mem_flat hF z)
      · obtain ⟨j, G, n, e, z⟩ := sub x z
        exact .inr (mem_flat e z)
  · by_cases hj : i = j
    · subst hj
      rw [List.getElem?_set_self hl] at h
      cases h
    · rw [List.getElem?_set_ne hj] at h ⊢
      exact rs.nil j h
theorem RS.back {i : Nat} {F : List Addr} {a : Addr} {o : O} (rs : RS K H0 (Bor B0 F) H σ (τ.set i (some (.anc a))) Fs) (hl : i < τ.length) (nF : F.Nodup) (fF : ∀ x ∈ F, H0 x = none) (sF : ∀ x ∈ F, ¬ B0 x)
    (r : Rp K H (fun x => B0 x ∨ x ∈ (Fs.set i F).flatten) o (.ref a) F) : RS K H0 B0 H σ (τ.set i (some o)) (Fs.set i F) := by
  have hl' : i < (τ.set i (some (.anc a))).length := by rw [List.length_set]; exact hl
  obtain ⟨v, G, h1, h2, h3, h4⟩ := rs.slot i (.anc a) (List.getElem?_set_self hl)
  subst h3 h4
  have dF : ∀ x ∈ F, x ∉ Fs.flatten := fun x z q => rs.sep x q (.inr z)
  have sub : ∀ x, x ∈ (Fs.set i F).flatten → x ∈ F ∨ x ∈ Fs.flatten := fun x z => by
    rcases flat_set z with z | ⟨j, G, n, e, z⟩
    · exact .inl z
    · exact .inr (mem_flat e z)
  have ll : Fs.length = τ.length := by have := rs.len; rwa [List.length_set] at this
  refine ⟨rs.same, fun x z => rs.old x (.inl z), fun x z q => ?_, by rw [List.length_set, List.length_set]; exact ll, by rw [List.length_set]; have := rs.lenσ; rwa [List.length_set] at this, set_nodup rs.nodup nF dF, fun x z => ?_, fun j o' h => ?_, fun j h => ?_⟩
  · rcases sub x z with z | z
    · exact sF x z q
    · exact rs.sep x z (.inl q)
  · rcases sub x z with z | z
    · exact fF x z
    · exact rs.fresh x z
  · by_cases hj : i = j
    · subst hj
      rw [List.getElem?_set_self hl] at h
      cases h
      exact ⟨.ref a, F, h1, List.getElem?_set_self (by rw [ll]; exact hl), r⟩
    · rw [List.getElem?_set_ne hj] at h
      obtain ⟨v, G, q1, q2, q3⟩ := rs.slot j o' (by rw [List.getElem?_set_ne hj]; exact h)
      refine ⟨v, G, q1, by rw [List.getElem?_set_ne hj]; exact q2, q3.mono fun x z => ?_⟩
      rcases z with z | z
      · exact .inl (.inl z)
      · rcases sub x z with z | z
        · exact .inl (.inr z)
        · exact .inr z
  · by_cases hj : i = j
    · subst hj
      rw [List.getElem?_set_self hl] at h
      cases h
    · rw [List.getElem?_set_ne hj] at h ⊢
      exact rs.nil j (by rw [List.getElem?_set_ne hj]; exact h)
end
section
variable {X : Cx} {tg e : Expr} {i : Nat} {vs : List Nat} {it : SEs} {g : TGd} {pos : Pos}
theorem ds_forA {body : List Stmt} {sb : SS} (hp : PassesOwn (model X.prog X.w) X.A X.env X.xe) (hc : X.calm = true) (hi : DI X tg [i] e it) (hg : DG X vs tg g) (hb : DSs X body sb) (hs : ∀ x, foldedSetIterable e X.env x = pure x := by intro _; rfl) :
    DS X (.For tg e body [] pos) (sForA i it g sb) := by
  refine (ps_for hp hc hi hg hb hs).byD fun D σ H h => ?_
  obtain ⟨H0, B0, τ, Fs, r, rs, hr, k⟩ := h
  unfold sForA at hr
  split at hr
  case h_2 => cases hr
  rename_i os hτ
  obtain ⟨xs, hx, hr⟩ := bind_some hr
  split at hr
  case isFalse => cases hr
  rename_i ex
  cases hr
  obtain ⟨τe, hτe⟩ : ∃ τe, ex.2.choose = τe := ⟨_, rfl⟩
  obtain ⟨hle, hall⟩ := ex.2.choose_spec
  rw [hτe] at hle hall k
  have hl : i < τ.length := (List.getElem?_eq_some_iff.mp hτ).1
  obtain ⟨v, F, hσ, hF, rl⟩ := rs.slot i _ hτ
  obtain ⟨a, ws, G, rfl, _⟩ := rl.lst_at
  have nF : F.Nodup := (List.sublist_flatten_of_mem (List.mem_of_getElem? hF)).nodup rs.nodup
  refine ⟨H0, B0, τ, Fs, xs, rs, hx, fun J H1 s1 wk => ?_⟩
  have rz := (rs.go s1).lend hl hσ hF
  have z0 : zeroAt [i] Fs = Fs.set i [] := rfl
  have stz : Step Fs (zeroAt [i] Fs) H H1 := (⟨Ext.of s1, fun a z => .inl z⟩ : Step Fs Fs H H1).trans zero_step fun x z => rs.mutF z
  have avz : ∀ {Fs2 : List (List Addr)} {H2 : Hp}, Step (zeroAt [i] Fs) Fs2 H1 H2 → ∀ a ∈ Fs2.flatten, Av B0 [i] Fs a ∨ H1 a = none := fun {Fs2 H2} st a z => by
    rcases st.new a z with z | z
    · obtain ⟨j, G, h1, e, z⟩ := zero_av [i] z
      exact .inl (.inr ⟨j, G, h1, e, z⟩)
    · exact .inr z
  have ext : ∀ {Fs2 : List (List Addr)} {H2 : Hp}, Step (zeroAt [i] Fs) Fs2 H1 H2 → Ext (Av B0 [i] Fs) H1 H2 := fun {Fs2 H2} st => st.ext.mono fun a z => by
    obtain ⟨j, G, h1, e, z⟩ := zero_av [i] z
    exact .inr ⟨j, G, h1, e, z⟩
  have zin : ∀ x, x ∈ (zeroAt [i] Fs).flatten → x ∈ Fs.flatten ∧ x ∉ F := fun x z => by
    obtain ⟨j, G, h1, e, z⟩ := zero_av [i] z
    exact ⟨mem_flat e z, fun q => h1 (List.mem_singleton.mpr (nodup_one rs.nodup e hF z q))⟩
  have fin : ∀ (σ2 : St) (H2 : Hp) (Fs2 : List (List Addr)), RS X.K H0 (Bor B0 F) H2 σ2 (τe.set i (some (.anc a))) Fs2 → Step (zeroAt [i] Fs) Fs2 H1 H2 → D.nx σ2 H2 := fun σ2 H2 Fs2 rs2 st2 => by
    have st02 : Step Fs Fs2 H H2 := stz.trans st2 fun x z => rs.mutF z
    have r1 := (rl.same s1).avoid (B' := fun x => (B0 x ∨ x ∈ Fs.flatten) ∨ x ∈ Fs2.flatten) fun x hn nb z => by
      rcases z with z | z
      · exact nb z
      · rcases st2.new x z with z | z
        · exact nb (.inr (zin x z).1)
        · exact hn z
    have r2 := r1.ext (C := fun x => x ∈ (zeroAt [i] Fs).flatten) st2.ext (fun x z => (rs.go s1).mutF (zin x z).1) (fun x z => .inl (.inr (zin x z).1)) (fun x z u e => st2.ext x u (fun q => (zin x q).2 z) e)
    have bk := rs2.back hle nF (fun x z => rs.fresh x (mem_flat hF z)) (fun x z => rs.sep x (mem_flat hF z)) (r2.mono fun x z => by
      rcases z with z | z
      · exact .inl (.inl z)
      · rcases flat_set z with z | ⟨j, G, n, e, z⟩
        · exact .inl (.inr (mem_flat hF z))
        · exact .inr (mem_flat e z))
    refine k σ2 H2 _ bk ⟨st02.ext, fun x z => ?_⟩
    rcases flat_set z with z | ⟨j, G, n, e, z⟩
    · exact .inl (mem_flat hF z)
    · exact st02.new x (mem_flat e z)
  refine ⟨fun n m σ' H' => ∃ τ' Fs', RS X.K H0 (Bor B0 F) H' σ' τ' Fs' ∧ forD g sb ((frzs xs).drop n) τ' = some (.nx (τe.set i (some (.anc a)))) ∧ Step (zeroAt [i] Fs) Fs' H1 H' ∧ m = (frzs xs).length - n ∧ n ≤ (frzs xs).length,
    ⟨_, _, zeroAt [i] Fs, rz, hall a, Step.refl, rfl, Nat.zero_le _⟩, ?_⟩
  rintro n m σ2 H2 ⟨τ2, Fs2, rs2, h2, st2, rfl, hi2⟩
  by_cases hlt : n < (frzs xs).length
  · refine .inr ⟨wk.go n H2 (ext st2) hlt, fun σ' H' => ∃ τ' Fs', RS X.K H0 (Bor B0 F) H' σ' τ' Fs' ∧ forD g sb ((frzs xs).drop (n + 1)) τ' = some (.nx (τe.set i (some (.anc a)))) ∧ Step (zeroAt [i] Fs) Fs' H1 H', fun σ' H' ⟨τ', Fs', a, b, c⟩ => ⟨(frzs xs).length - (n + 1), by omega, τ', Fs', a, b, c, rfl, hlt⟩, fun x H3 y => ?_⟩
    have ho : (frzs xs)[n]? = some ((frzs xs)[n]) := List.getElem?_eq_getElem hlt
    obtain ⟨s3, r3⟩ := wk.yld n _ x H2 H3 (ext st2) ho y
    rw [List.drop_eq_getElem_cons hlt] at h2
    unfold forD at h2
    obtain ⟨τ3, hg3, h2⟩ := bind_some h2
    refine ⟨H0, Bor B0 F, τ2, Fs2, _, τ3, rs2.go s3, Rp.flatB (by have := List.all_eq_true.mp ((flats_eq _).symm.trans ex.1) _ (List.getElem_mem hlt); exact this) r3, hg3, fun σ4 Fs4 rs4 sub4 _ => ?_⟩
    · have st4 : Step Fs2 Fs4 H2 H3 := ⟨Ext.of s3, fun a z => .inl (sub4 a z)⟩
      have st14 : Step (zeroAt [i] Fs) Fs4 H1 H3 := st2.trans st4 fun x z => rz.mutF z
      cases hy : sb τ3 with
      | none => rw [hy] at h2; cases h2
      | some p =>
        rw [hy] at h2
        refine ⟨H0, Bor B0 F, τ3, Fs4, p, rs4, hy, ?_⟩
        cases p with
        | nx τ5 => exact fun σ5 H5 Fs5 rs5 st5 => ⟨τ5, Fs5, rs5, h2, st14.trans st5 fun x z => rz.mutF z⟩
        | ct τ5 => exact fun σ5 H5 Fs5 rs5 st5 => ⟨τ5, Fs5, rs5, h2, st14.trans st5 fun x z => rz.mutF z⟩
        | bk τ5 => cases h2; exact fun σ5 H5 Fs5 rs5 st5 => fin σ5 H5 Fs5 rs5 (st14.trans st5 fun x z => rz.mutF z)
        | rt o => cases h2
  · have e : n = (frzs xs).length := by omega
    subst e
    rw [List.drop_length] at h2
    cases h2
    exact .inl ⟨wk.stop H2 (ext st2), fin σ2 H2 Fs2 rs2 st2⟩
end
end Dv

end
section
set_option Elab.async false
set_option linter.all false
set_option maxRecDepth 100000
/-! Dz: a list taken apart into names; slices with a step; sorted of numbers, of rows of numbers. -/
namespace Dv
open PySem PySem.Spec L2
open PyProof.Rows hiding St
/-- a, b, .. = a list -/
def gU (n : Nat) (r : List O → Sl → Option Sl) : TGd := fun o τ => match o with
  | .lst false xs => if xs.length = n then r xs τ else none
  | _ => none
/-- the items that a slice with a step picks -/
def stp {α : Type} (xs : List α) (lo : Option Int) (k : Int) : List α := ((sliceRange (sliceBounds lo none (some k) xs.length).1 (sliceBounds lo none (some k) xs.length).2.1 (sliceBounds lo none (some k) xs.length).2.2).filterMap (xs[·]?))
def xStp (a : SE) (lo : Option Int) (k : Int) : SE := fun τ => (a τ).bind fun x => match x with
  | .lst _ xs => some (.lst true (stp (frzs xs) lo k))
  | _ => none
theorem stp_map {α β : Type} (f : α → β) (xs : List α) (lo : Option Int) (k : Int) : stp (xs.map f) lo k = (stp xs lo k).map f := by
  unfold stp
  rw [List.length_map, List.map_filterMap]
  congr 1
  funext i
  rw [List.getElem?_map]
theorem stp_mem {α : Type} {xs : List α} {lo : Option Int} {k : Int} {x : α} (h : x ∈ stp xs lo k) : x ∈ xs := by
  obtain ⟨i, _, h⟩ := List.mem_filterMap.mp h
  exact List.mem_of_getElem? h
theorem stp_pick (its : List Value) (lo : Option Int) (k : Int) : slicePick its.toArray lo none (some k) = (stp its lo k).toArray := by
  unfold slicePick stp
  rw [List.size_toArray]
  congr 2
  funext i
  exact List.getElem?_toArray ..
theorem stp_len {α : Type} (xs : List α) (lo : Option Int) (k : Int) : (stp xs lo k).length ≤ xs.length := by
  have h1 := slicePick_size_le (xs.map fun _ => Value.none).toArray lo none (some k)
  rw [stp_pick, stp_map, List.size_toArray, List.size_toArray, List.length_map, List.length_map] at h1
  exact h1
theorem vals_stp {xs : List V} {its : List Value} (rv : Vals xs its) (lo : Option Int) (k : Int) : Vals (stp xs lo k) (stp its lo k) := by
  unfold stp
  rw [rv.length]
  generalize sliceRange _ _ _ = L
  induction L with
  | nil => exact .nil
  | cons i L ih =>
    cases hi : xs[i]? with
    | none =>
      have : its[i]? = none := by
        rw [List.getElem?_eq_none_iff] at hi ⊢
        rw [← rv.length]; exact hi
      rw [List.filterMap_cons_none hi, List.filterMap_cons_none this]
      exact ih
    | some x =>
      obtain ⟨u, hu, ru⟩ := rv.get hi
      rw [List.filterMap_cons_some hi, List.filterMap_cons_some hu]
      exact .cons ru ih
section
variable {X : Cx} {e : Expr} {es : List Expr} {ns vs : List Nat} {f : SE} {gs : List O → Sl → Option Sl} {pos : Pos}
theorem dg_unl {k n : Nat} (hc : X.calm = true) (h : DGs X vs es gs) (hn : (assignEach es X.env).length = n := by rfl) (hst : (assignEach es X.env).findIdx? (·.1) = none := by rfl) : DG X vs (.Tuple es k pos) (gU n gs) := by
  refine (pg_unl hc h hn hst).byD fun v σ H Q h => ?_
  obtain ⟨H0, B0, τ, Fs, o, τ', rs, r, hg, k⟩ := h
  match o, hg with
  | .lst false xs, hg =>
    obtain ⟨a, us, e1, h2, h3, h4, q⟩ := r
    simp only [gU] at hg
    split at hg
    · rename_i hl
      exact ⟨a, us, e1, SqL.of h2, by rw [← q.len]; exact hl, H0, B0, τ, Fs, xs, τ', rs, q, hg, k⟩
    · cases hg
/-! ### slices with a step -/
def tStp (K : PySem.W.Frag) (lo : Option Int) (c : Int) (te : TE) : TE := fun σ H Q => te σ H fun x H1 => ∃ a xs, x = .ref a ∧ SqL K H1 a xs ∧ ∀ p, H1 p = none → Q (.ref p) (upd H1 p (.lst (stp xs lo c)))
theorem pe_stp {te : TE} {lo : Option Int} {c : Int} {el : Option Expr} {k2 : Nat} {p2 p3 : Pos} (he : PE X e te) (hl : PO X el (fun σ H Q => Q lo H)) (h0 : c ≠ 0) : PE X (.Subscript e (.Slice el none (some (.Constant (.int c) k2 p2)) p3) pos) (tStp X.K lo c te) := by
  refine ⟨fun pins s σ H Q I h => ?_⟩
  refine Subscript_ (thn (he.run pins s σ H _ I h) fun v s1 ⟨x, H1, I1, r1, q1⟩ => ?_)
  obtain ⟨a, xs, ex, hx, q⟩ := q1
  subst ex
  cases r1
  have hst : PO X (some (.Constant (.int c) k2 p2)) (tPart (tC (.int c))) := po_some pe_int
  refine wpAny_Slice (thn (hl.run pins s1 σ H1 (fun o H2 => o = lo ∧ H2 = H1) I1 ⟨rfl, rfl⟩) fun vl s2 ⟨l, H2, I2, pl, el, e2⟩ => ?_)
  subst el e2
  refine thn (po_none.run pins s2 σ H2 (fun o H3 => o = none ∧ H3 = H2) I2 ⟨rfl, rfl⟩) fun vu s3 ⟨u, H3, I3, pu, eu, e3⟩ => ?_
  subst eu e3
  refine thn (hst.run pins s3 σ H3 (fun o H4 => o = some c ∧ H4 = H3) I3 ⟨c, rfl, rfl, rfl⟩) fun vs s4 ⟨o, H4, I4, ps, eo, e4⟩ => ?_
  subst eo e4
  have I5 : Inv X pins σ H4 { s4 with heap := s4.heap.push { cls := .type "slice", data := .fields #[vl, vu, vs] } } := I4.kept (t' := s4.toks) fun b ob q => Heap.get?_push_of_some _ q
  obtain ⟨its, r, ht, hz⟩ := I5.list hx
  have hlen := r.length
  show wpAny (model X.prog X.w) X.A (subscriptTail e (.Slice _ none (some (.Constant (.int c) k2 p2)) p3) (.ref a) (.ref s4.heap.objs.size)) (EP X pins σ Q) X.xe { s4 with heap := s4.heap.push { cls := .type "slice", data := .fields #[vl, vu, vs] } }
  refine tail_any (ops := [.ref a, .ref s4.heap.objs.size]) ht.isList.typeIs (PySem.slot_list_getitem.lookup) ?_ (by with_unfolding_all rfl)
  refine wpAny_getItem_list_slice ht.isList (Heap.IsSliceOf.new _ vl vu vs) pl pu ps (by intro z; cases z; exact h0 rfl) ?_ (by rw [List.size_toArray]; omega)
  rw [stp_pick]
  refine ⟨.ref _, _, I5.laid (t' := s4.toks) (o := .lst (stp xs l c)) (fun b ob q => Heap.get?_push_of_some _ q) (Nat.le_refl _) ?_, rfl, q _ (I5.hok.fresh (Nat.le_refl _))⟩
  exact ⟨Nat.le_trans (stp_len _ _ _) hz, _, 0, vals_stp r _ _, Heap.get?_push_size _ rfl⟩
theorem po_n : PO X none (fun σ H Q => Q none H) := po_none
theorem po_i {i : Int} {k2 : Nat} {p2 : Pos} : PO X (some (.Constant (.int i) k2 p2)) (fun σ H Q => Q (some i) H) := by
  refine ⟨fun pins s σ H Q I h => ?_⟩
  exact (po_some (pe_int (X := X))).run pins s σ H Q I ⟨i, rfl, h⟩
theorem Rps.filt {H : Hp} {B : Addr → Prop} {K : PySem.W.Frag} {os : List O} {ws : List V} (h : Rps K H B os ws []) (L : List Nat) : Rps K H B (L.filterMap (os[·]?)) (L.filterMap (ws[·]?)) [] := by
  induction L with
  | nil => exact ⟨rfl, rfl⟩
  | cons i L ih =>
    cases hi : os[i]? with
    | none =>
      have : ws[i]? = none := by
        rw [List.getElem?_eq_none_iff] at hi ⊢
        rw [← h.len]; exact hi
      rw [List.filterMap_cons_none hi, List.filterMap_cons_none this]
      exact ih
    | some x =>
      obtain ⟨u, G, hu, ru, sb⟩ := h.at hi
      have eG : G = [] := List.sublist_nil.mp sb
      subst eG
      rw [List.filterMap_cons_some hi, List.filterMap_cons_some hu]
      exact ⟨u, _, [], [], rfl, rfl, ru, ih⟩
theorem de_stp {lo : Option Int} {c : Int} {el : Option Expr} {k2 : Nat} {p2 p3 : Pos} (he : DE X ns e f) (hl : PO X el (fun σ H Q => Q lo H)) (h0 : c ≠ 0 := by decide) : DE X ns (.Subscript e (.Slice el none (some (.Constant (.int c) k2 p2)) p3) pos) (xStp f lo c) := by
  refine (pe_stp he hl h0).byD fun σ H Q h => ?_
  obtain ⟨H0, B0, τ, Fs, o, rs, ho, k⟩ := h
  obtain ⟨x, hx, ho⟩ := bind_some ho
  refine ⟨H0, B0, τ, Fs, x, rs, hx, fun v1 H1 F1 s1 r1 n1 f1 => ?_⟩
  cases x with
  | lst own xs =>
    cases ho
    obtain ⟨a, vs, e1, h1, _, q⟩ := rp_items r1 fun z w => avB rs (f1 z w)
    refine ⟨a, vs, e1, SqL.of h1, fun p hp => ?_⟩
    have q2 : Rps X.K H1 (Av B0 ns Fs) (stp (frzs xs) lo c) (stp vs lo c) [] := by
      unfold stp
      rw [q.len]
      exact q.filt _
    obtain ⟨n3, n4⟩ := new_lst (B := Av B0 ns Fs) hp q2.nilF List.nodup_nil
    exact k (.ref p) _ [p] (s1.trans (same_upd hp)) n3 n4 fun z w => by rw [List.mem_singleton.mp w]; exact s1.free hp
  | _ => cases ho
end
/-! ### sorted of numbers, of rows of numbers -/
def sortN (is : List Int) : List Int := is.mergeSort (fun a b => decide (a ≤ b))
theorem sortN_eq {is js : List Int} (p : js.Perm is) (o : js.Pairwise (· ≤ ·)) : js = sortN is := by
  refine List.Perm.eq_of_pairwise (le := (· ≤ ·)) (fun a b _ _ h1 h2 => Int.le_antisymm h1 h2) o ?_ (p.trans (List.mergeSort_perm is _).symm)
  have := List.pairwise_mergeSort (le := fun a b : Int => decide (a ≤ b)) (fun a b c h1 h2 => decide_eq_true (Int.le_trans (of_decide_eq_true h1) (of_decide_eq_true h2))) (fun a b => by
    by_cases h : a ≤ b
    · simp [h]
    · have : b ≤ a := by omega
      simp [this]) is
  exact this.imp fun h => of_decide_eq_true h
def sortI : List O → Option O
  | [.lst _ xs] => (asIs xs).bind fun is => if is.length < 64 then some (.lst true ((sortN is).map O.int)) else none
  | _ => none
theorem o_sortI {K : PySem.W.Frag} : OpN K sortI (rSorted K) := by
  intro B H xs o vs F Q e r nd av k
  match xs, e with
  | [.lst own xs], e =>
    obtain ⟨is, hb, e⟩ := bind_some (show (asIs xs).bind (fun is => if is.length < 64 then some (O.lst true ((sortN is).map O.int)) else none) = some o from e)
    split at e
    · rename_i hl
      cases e
      obtain ⟨v, rfl, r1⟩ := rps1 r
      obtain ⟨a, ws, G, rfl, h2, q, sb, _⟩ := r1.lst_at
      have t1 := asIs_rp hb q
      subst t1
      refine ⟨a, is, rfl, SqL.of h2, hl, fun ys p hy ho hp => ?_⟩
      rw [sortN_eq hy ho]
      obtain ⟨n3, n4⟩ := new_lst (K := K) (B := B) (G := []) hp (Rps.nilF (Rps.ints (K := K) rfl)) List.nodup_nil
      exact k (.ref p) _ [p] (same_upd hp) n3 n4 fun z q => .inr (by rw [List.mem_singleton.mp q]; exact hp)
    · cases e
/-- a list's numbers -/
def asL : O → Option (List Int)
  | .lst _ xs => asIs xs
  | _ => none
def asLs : List O → Option (List (List Int))
  | [] => some []
  | x :: xs => (asL x).bind fun t => (asLs xs).bind fun ts => some (t :: ts)
def lstI (ns : List Int) : O := .lst false (ns.map O.int)
end Dv

end
section
set_option Elab.async false
set_option linter.all false
set_option maxRecDepth 100000
namespace Sm
open Dv
-- def _law_turned(_law_one, _law_other): _law_one=0 _law_other=1
noncomputable def s__law_turned : SS :=
  sRet (x2 subD (x2 mulD (x2 ixD (xV 0) (xC (.int 0))) (x2 ixD (xV 1) (xC (.int 1)))) (x2 mulD (x2 ixD (xV 0) (xC (.int 1))) (x2 ixD (xV 1) (xC (.int 0)))))
noncomputable def f__law_turned : List O → Option O := fnD 2 2 s__law_turned

-- def _law_way(_law_one, _law_two, _law_wide): _law_one=0 _law_two=1 _law_wide=2 _law_x=3 _law_y=4
noncomputable def s__law_way : SS :=
  sSeq (sSet [0, 2, 2] 3 (x2 subD (x2 modD (xV 0) (x2 addD (x2 mulD (xC (.int 2)) (xV 2)) (xC (.int 1)))) (xV 2)))
  (sSeq (sSet [1, 2, 2] 4 (x2 subD (x2 modD (xV 1) (x2 addD (x2 mulD (xC (.int 2)) (xV 2)) (xC (.int 1)))) (xV 2)))
  (sSeq (sIf (Dv.tAnd (tOf (x2 eqD (xV 3) (xC (.int 0)))) (tOf (x2 eqD (xV 4) (xC (.int 0))))) (sSet [0] 3 (x2 subD (xC (.int 1)) (x2 mulD (xC (.int 2)) (x2 modD (xV 0) (xC (.int 2)))))) (sN))
  (sRet (xTup (xsC (xV 3) (xsC (xV 4) (xsN)))))))
noncomputable def f__law_way : List O → Option O := fnD 3 5 s__law_way

-- def _law_left_pair(_law_d, _law_wide): _law_d=0 _law_wide=1 _law_one=2 _law_other=3
noncomputable def s__law_left_pair : SS :=
  sSeq (sSet [0, 0, 1] 2 (xCall f__law_way (xsC (x2 ixD (xV 0) (xC (.int 0))) (xsC (x2 ixD (xV 0) (xC (.int 1))) (xsC (xV 1) (xsN))))))
  (sSeq (sSet [0, 0, 1] 3 (xCall f__law_way (xsC (x2 ixD (xV 0) (xC (.int 2))) (xsC (x2 ixD (xV 0) (xC (.int 3))) (xsC (xV 1) (xsN))))))
  (sSeq (sIf (tOf (x2 eqD (x2 modD (x2 ixD (xV 0) (xC (.int 4))) (xC (.int 4))) (xC (.int 1)))) (sSet [2, 2] 3 (xTup (xsC (x1 negD (x2 ixD (xV 2) (xC (.int 1)))) (xsC (x2 ixD (xV 2) (xC (.int 0))) (xsN))))) (sN))
  (sSeq (sIf (tOf (x2 ltD (xCall f__law_turned (xsC (xV 2) (xsC (xV 3) (xsN)))) (xC (.int 0)))) (sPar [3, 2] 2 3 (xsC (xV 3) (xsC (xV 2) (xsN)))) (sN))
  (sSeq (sIf (tOf (x2 eqD (xCall f__law_turned (xsC (xV 2) (xsC (xV 3) (xsN)))) (xC (.int 0)))) (sSet [2, 2] 3 (xTup (xsC (x1 negD (x2 ixD (xV 2) (xC (.int 1)))) (xsC (x2 ixD (xV 2) (xC (.int 0))) (xsN))))) (sN))
  (sRet (xTup (xsC (xV 2) (xsC (xV 3) (xsN)))))))))
noncomputable def f__law_left_pair : List O → Option O := fnD 2 4 s__law_left_pair

-- def _law_bank(_law_d, _law_wide): _law_d=0 _law_wide=1 _law_one=2 _law_other=3 _law_x=4 _law_y=5 _law_p=6 _law_q=7 _law_leads=8 _law_turned_here=9 _law_here=10 _law_row=11 _law_found=12 _law_dx=13 _law_dy=14 _law_at=15
noncomputable def b1__law_bank : SS :=
  sSeq (sApp [10] 12 (xV 10))
  (sSet [10, 13, 10, 14] 10 (xTup (xsC (x2 addD (x2 ixD (xV 10) (xC (.int 0))) (xV 13)) (xsC (x2 addD (x2 ixD (xV 10) (xC (.int 1))) (xV 14)) (xsN)))))
noncomputable def s__law_bank : SS :=
  sSeq (sAsg [0, 1] (xCall f__law_left_pair (xsC (xV 0) (xsC (xV 1) (xsN)))) (gT 2 (gsC (gN 2) (gsC (gN 3) (gsN)))))
  (sSeq (sAsg [2] (xV 2) (gT 2 (gsC (gN 4) (gsC (gN 5) (gsN)))))
  (sSeq (sAsg [3] (xV 3) (gT 2 (gsC (gN 6) (gsC (gN 7) (gsN)))))
  (sSeq (sSet [4, 5, 6, 4, 7, 5, 6, 7, 4, 5, 6, 7, 4, 5, 6, 7, 4, 5, 6, 7, 6, 4, 7, 5, 4, 5, 6, 7, 4, 5, 4, 6, 5, 7, 6, 7, 4, 5, 4, 6, 5, 7, 6, 7] 8 (xLst (xsC (xLst (xsC (xTup (xsC (xV 4) (xsC (xV 5) (xsN)))) (xsC (xTup (xsC (x2 subD (xV 6) (xV 4)) (xsC (x2 subD (xV 7) (xV 5)) (xsN)))) (xsC (xTup (xsC (x1 negD (xV 6)) (xsC (x1 negD (xV 7)) (xsN)))) (xsN))))) (xsC (xLst (xsC (xTup (xsC (xV 4) (xsC (xV 5) (xsN)))) (xsC (xTup (xsC (xV 6) (xsC (xV 7) (xsN)))) (xsC (xTup (xsC (x1 negD (xV 4)) (xsC (x1 negD (xV 5)) (xsN)))) (xsC (xTup (xsC (x1 negD (xV 6)) (xsC (x1 negD (xV 7)) (xsN)))) (xsN)))))) (xsC (xLst (xsC (xTup (xsC (x2 mulD (xC (.int 2)) (xV 4)) (xsC (x2 mulD (xC (.int 2)) (xV 5)) (xsN)))) (xsC (xTup (xsC (xV 6) (xsC (xV 7) (xsN)))) (xsC (xTup (xsC (x2 subD (xV 6) (xV 4)) (xsC (x2 subD (xV 7) (xV 5)) (xsN)))) (xsC (xTup (xsC (x1 negD (xV 4)) (xsC (x1 negD (xV 5)) (xsN)))) (xsC (xTup (xsC (x2 mulD (x1 negD (xC (.int 2))) (xV 6)) (xsC (x2 mulD (x1 negD (xC (.int 2))) (xV 7)) (xsN)))) (xsN))))))) (xsC (xLst (xsC (xTup (xsC (xV 4) (xsC (xV 5) (xsN)))) (xsC (xTup (xsC (x2 addD (xV 4) (xV 6)) (xsC (x2 addD (xV 5) (xV 7)) (xsN)))) (xsC (xTup (xsC (xV 6) (xsC (xV 7) (xsN)))) (xsC (xTup (xsC (x1 negD (xV 4)) (xsC (x1 negD (xV 5)) (xsN)))) (xsC (xTup (xsC (x2 subD (x1 negD (xV 4)) (xV 6)) (xsC (x2 subD (x1 negD (xV 5)) (xV 7)) (xsN)))) (xsC (xTup (xsC (x1 negD (xV 6)) (xsC (x1 negD (xV 7)) (xsN)))) (xsN)))))))) (xsN)))))))
  (sSeq (sSet [4, 5, 4, 6, 5, 7, 4, 6, 5, 7, 6, 7, 4, 5] 9 (xLst (xsC (xTup (xsC (xV 4) (xsC (xV 5) (xsN)))) (xsC (xTup (xsC (x2 addD (x2 mulD (xC (.int 2)) (xV 4)) (xV 6)) (xsC (x2 addD (x2 mulD (xC (.int 2)) (xV 5)) (xV 7)) (xsN)))) (xsC (xTup (xsC (x2 addD (xV 4) (x2 mulD (xC (.int 2)) (xV 6))) (xsC (x2 addD (xV 5) (x2 mulD (xC (.int 2)) (xV 7))) (xsN)))) (xsC (xTup (xsC (xV 6) (xsC (xV 7) (xsN)))) (xsC (xTup (xsC (x1 negD (xV 4)) (xsC (x1 negD (xV 5)) (xsN)))) (xsN))))))))
  (sSeq (sApp [9, 4, 6, 5, 7, 4, 6, 5, 7] 8 (x2 addD (xV 9) (xLst (xsC (xTup (xsC (x2 subD (x2 mulD (x1 negD (xC (.int 2))) (xV 4)) (xV 6)) (xsC (x2 subD (x2 mulD (x1 negD (xC (.int 2))) (xV 5)) (xV 7)) (xsN)))) (xsC (xTup (xsC (x2 subD (x1 negD (xV 4)) (x2 mulD (xC (.int 3)) (xV 6))) (xsC (x2 subD (x1 negD (xV 5)) (x2 mulD (xC (.int 3)) (xV 7))) (xsN)))) (xsN))))))
  (sSeq (sApp [9, 4, 6, 5, 7, 4, 6, 5, 7, 6, 7] 8 (x2 addD (xV 9) (xLst (xsC (xTup (xsC (x2 subD (x2 mulD (x1 negD (xC (.int 2))) (xV 4)) (xV 6)) (xsC (x2 subD (x2 mulD (x1 negD (xC (.int 2))) (xV 5)) (xV 7)) (xsN)))) (xsC (xTup (xsC (x2 subD (x1 negD (xV 4)) (x2 mulD (xC (.int 2)) (xV 6))) (xsC (x2 subD (x1 negD (xV 5)) (x2 mulD (xC (.int 2)) (xV 7))) (xsN)))) (xsC (xTup (xsC (x1 negD (xV 6)) (xsC (x1 negD (xV 7)) (xsN)))) (xsN)))))))
  (sSeq (sSet [0, 0] 10 (xTup (xsC (x2 subD (x2 modD (x2 ixD (xV 0) (xC (.int 5))) (xC (.int 41))) (xC (.int 20))) (xsC (x2 subD (x2 modD (x2 ixD (xV 0) (xC (.int 6))) (xC (.int 41))) (xC (.int 20))) (xsN)))))
  (sSeq (sSet [8, 0] 11 (x2 ixD (xV 8) (x2 modD (x2 ixD (xV 0) (xC (.int 7))) (xC (.int 6)))))
  (sSeq (sSet [] 12 (xLst (xsN)))
  (sSeq (sFor [11] (itL (xV 11)) (gT 2 (gsC (gN 13) (gsC (gN 14) (gsN)))) (b1__law_bank))
  (sSeq (sSet [0, 12] 15 (x2 modD (x2 ixD (xV 0) (xC (.int 8))) (xF lenD' (xsC (xV 12) (xsN)))))
  (sRet (x2 addD (xSl (xV 12) (pI (xV 15)) pN) (xSl (xV 12) pN (pI (xV 15))))))))))))))))
noncomputable def f__law_bank : List O → Option O := fnD 2 16 s__law_bank

-- def _law_bent(_law_d, _law_row): _law_d=0 _law_row=1 _law_at=2 _law_to=3 _law_way_here=4 _law_x=5 _law_y=6
noncomputable def s__law_bent : SS :=
  sSeq (sSet [0, 1] 2 (x2 modD (x2 ixD (xV 0) (xC (.int 1))) (xF lenD' (xsC (xV 1) (xsN)))))
  (sSeq (sSet [0, 1] 3 (x2 modD (x2 ixD (xV 0) (xC (.int 2))) (xF lenD' (xsC (xV 1) (xsN)))))
  (sSeq (sSet [0] 4 (x2 modD (x2 ixD (xV 0) (xC (.int 0))) (xC (.int 10))))
  (sSeq (sAsg [1, 2] (x2 ixD (xV 1) (xV 2)) (gT 2 (gsC (gN 5) (gsC (gN 6) (gsN)))))
  (sSeq (sIf (tOf (x2 eqD (xV 4) (xC (.int 1)))) (sRet (x2 addD (xSl (xV 1) pN (pI (xV 2))) (xSl (xV 1) (pI (x2 addD (xV 2) (xC (.int 1)))) pN))) (sN))
  (sSeq (sIf (tOf (x2 eqD (xV 4) (xC (.int 2)))) (sRet (x2 addD (x2 addD (xSl (xV 1) pN (pI (xV 2))) (xLst (xsC (x2 ixD (xV 1) (xV 3)) (xsN)))) (xSl (xV 1) (pI (xV 2)) pN))) (sN))
  (sSeq (sIf (tOf (x2 eqD (xV 4) (xC (.int 3)))) (sRet (xRev (xV 1))) (sN))
  (sSeq (sIf (tOf (x2 eqD (xV 4) (xC (.int 4)))) (sRet (x2 addD (x2 addD (xSl (xV 1) pN (pI (xV 2))) (xLst (xsC (xTup (xsC (x2 subD (x2 addD (xV 5) (x2 modD (x2 ixD (xV 0) (xC (.int 2))) (xC (.int 3)))) (xC (.int 1))) (xsC (x2 subD (x2 addD (xV 6) (x2 modD (x2 ixD (xV 0) (xC (.int 3))) (xC (.int 3)))) (xC (.int 1))) (xsN)))) (xsN)))) (xSl (xV 1) (pI (x2 addD (xV 2) (xC (.int 1)))) pN))) (sN))
  (sSeq (sIf (tOf (x2 eqD (xV 4) (xC (.int 5)))) (sRet (x2 addD (x2 addD (xSl (xV 1) pN (pI (xV 2))) (xLst (xsC (xTup (xsC (x2 addD (xV 5) (x2 modD (x2 ixD (xV 0) (xC (.int 2))) (xC (.int 400)))) (xsC (x2 subD (xV 6) (x2 modD (x2 ixD (xV 0) (xC (.int 3))) (xC (.int 400)))) (xsN)))) (xsN)))) (xSl (xV 1) (pI (x2 addD (xV 2) (xC (.int 1)))) pN))) (sN))
  (sSeq (sIf (tOf (x2 eqD (xV 4) (xC (.int 6)))) (sRet (x2 addD (x2 addD (xSl (xV 1) pN (pI (xV 2))) (xLst (xsC (xTup (xsC (x2 subD (x2 mulD (xC (.int 2)) (x2 ixD (x2 ixD (xV 1) (x2 subD (xV 2) (xC (.int 1)))) (xC (.int 0)))) (xV 5)) (xsC (x2 subD (x2 mulD (xC (.int 2)) (x2 ixD (x2 ixD (xV 1) (x2 subD (xV 2) (xC (.int 1)))) (xC (.int 1)))) (xV 6)) (xsN)))) (xsN)))) (xSl (xV 1) (pI (xV 2)) pN))) (sN))
  (sSeq (sIf (tOf (x2 eqD (xV 4) (xC (.int 7)))) (sRet (xSl (x2 addD (xStp (xV 1) none 2) (xStp (xV 1) (some 1) 2)) pN (pI (xC (.int 12))))) (sN))
  (sSeq (sIf (tOf (x2 eqD (xV 4) (xC (.int 8)))) (sRet (xSl (x2 addD (x2 addD (xV 1) (xV 1)) (xV 1)) pN (pI (x2 addD (xC (.int 3)) (x2 modD (x2 ixD (xV 0) (xC (.int 2))) (xC (.int 10))))))) (sN))
  (sRetV 1))))))))))))
noncomputable def f__law_bent : List O → Option O := fnD 2 7 s__law_bent

-- def _law_power(_law_number): _law_number=0
noncomputable def s__law_power : SS :=
  sRet (x2 modD (x2 powD (x2 modD (xV 0) (xC (.int 1000003))) (xC (.int 5))) (xC (.int 1000003)))
noncomputable def f__law_power : List O → Option O := fnD 1 1 s__law_power

-- def _law_draws(_law_script, _law_many): _law_script=0 _law_many=1 _law_rows=2 _law_mix=3 _law_cell=4 _law_rest=5
noncomputable def c1__law_draws : ST :=
  Dv.tAnd (tOf (x2 gtD (xV 5) (xC (.int 0)))) (tOf (x2 ltD (xF lenD' (xsC (xV 2) (xsN))) (xV 1)))
noncomputable def b1__law_draws : SS :=
  sSeq (sApp [5] 2 (x2 modD (xV 5) (xC (.int 1000003))))
  (sSet [5] 5 (x2 fdivD (xV 5) (xC (.int 1000003))))
noncomputable def b2__law_draws : SS :=
  sSeq (sSet [3, 4] 3 (x2 modD (x2 addD (x2 mulD (xV 3) (xC (.int 48271))) (xV 4)) (xC (.int 2147483647))))
  (sSeq (sSet [4] 5 (xF absD (xsC (xV 4) (xsN))))
  (sSeq (sIf (tOf (x2 ltD (xV 5) (x2 powD (xC (.int 10)) (xC (.int 18))))) (sSeq (sApp [4, 2] 2 (xCall f__law_power (xsC (x2 addD (xV 4) (x2 mulD (xC (.int 1009)) (xF lenD' (xsC (xV 2) (xsN))))) (xsN))))
  (sSet [] 5 (xC (.int 0)))) (sN))
  (sWhl (c1__law_draws) (b1__law_draws))))
noncomputable def c2__law_draws : ST :=
  tOf (x2 ltD (xF lenD' (xsC (xV 2) (xsN))) (xV 1))
noncomputable def b3__law_draws : SS :=
  sSeq (sSet [3] 3 (x2 modD (x2 addD (x2 mulD (xV 3) (xC (.int 48271))) (xC (.int 11))) (xC (.int 2147483647))))
  (sApp [3] 2 (xCall f__law_power (xsC (xV 3) (xsN))))
noncomputable def s__law_draws : SS :=
  sSeq (sSet [] 2 (xLst (xsN)))
  (sSeq (sSet [] 3 (xC (.int 7)))
  (sSeq (sFor [0] (itL (xSl (xV 0) pN (pI (xC (.int 63))))) (gN 4) (b2__law_draws))
  (sSeq (sWhl (c2__law_draws) (b3__law_draws))
  (sRetV 2))))
noncomputable def f__law_draws : List O → Option O := fnD 2 6 s__law_draws

-- def _law_is_round(_law_places): _law_places=0 _law_many=1 _law_at=2 _law_x=3 _law_y=4 _law_p=5 _law_q=6 _law_k=7 _law_r=8 _law_s=9
noncomputable def b1__law_is_round : SS :=
  sIf (Dv.tAnd (tOf (x2 neD (xV 7) (xV 2))) (tOf (x2 neD (xV 7) (x2 modD (x2 addD (xV 2) (xC (.int 1))) (xV 1))))) (sSeq (sAsg [0, 7] (x2 ixD (xV 0) (xV 7)) (gT 2 (gsC (gN 8) (gsC (gN 9) (gsN)))))
  (sIf (tOf (x2 leD (x2 subD (x2 mulD (x2 subD (xV 5) (xV 3)) (x2 subD (xV 9) (xV 4))) (x2 mulD (x2 subD (xV 6) (xV 4)) (x2 subD (xV 8) (xV 3)))) (xC (.int 0)))) (sRet (xC (.bl false))) (sN))) (sN)
noncomputable def b2__law_is_round : SS :=
  sSeq (sAsg [0, 2] (x2 ixD (xV 0) (xV 2)) (gT 2 (gsC (gN 3) (gsC (gN 4) (gsN)))))
  (sSeq (sAsg [0, 2, 1] (x2 ixD (xV 0) (x2 addD (x2 subD (xV 2) (xV 1)) (xC (.int 1)))) (gT 2 (gsC (gN 5) (gsC (gN 6) (gsN)))))
  (sFor [] (itR1 (xV 1)) (gN 7) (b1__law_is_round)))
noncomputable def s__law_is_round : SS :=
  sSeq (sSet [0] 1 (xF lenD' (xsC (xV 0) (xsN))))
  (sSeq (sIf (Dv.tNot (tOf (xCh (fun i j => decide (i ≤ j)) (fun i j => decide (i ≤ j)) (xC (.int 3)) (xV 1) (xC (.int 8))))) (sRet (xC (.bl false))) (sN))
  (sSeq (sFor [] (itR1 (xV 1)) (gN 2) (b2__law_is_round))
  (sRet (xC (.bl true)))))
noncomputable def f__law_is_round : List O → Option O := fnD 1 10 s__law_is_round

-- def stretch(one, other): one=0 other=1
noncomputable def s_stretch : SS :=
  sRet (xTup (xsC (x2 subD (x2 ixD (xV 1) (xC (.int 0))) (x2 ixD (xV 0) (xC (.int 0)))) (xsC (x2 subD (x2 ixD (xV 1) (xC (.int 1))) (x2 ixD (xV 0) (xC (.int 1)))) (xsN))))
noncomputable def f_stretch : List O → Option O := fnD 2 2 s_stretch

-- def turn(one, other): one=0 other=1
noncomputable def s_turn : SS :=
  sRet (x2 subD (x2 mulD (x2 ixD (xV 0) (xC (.int 0))) (x2 ixD (xV 1) (xC (.int 1)))) (x2 mulD (x2 ixD (xV 0) (xC (.int 1))) (x2 ixD (xV 1) (xC (.int 0)))))
noncomputable def f_turn : List O → Option O := fnD 2 2 s_turn

-- def is_bank(corners): corners=0 many=1 at=2 to=3 third=4 lead=5
noncomputable def b1_is_bank : SS :=
  sSeq (sSet [0, 2, 0, 3] 5 (xCall f_stretch (xsC (x2 ixD (xV 0) (xV 2)) (xsC (x2 ixD (xV 0) (xV 3)) (xsN)))))
  (sIf (Dv.tAnd (tOf (x2 neD (xV 4) (xV 2))) (Dv.tAnd (tOf (x2 neD (xV 4) (xV 3))) (tOf (x2 leD (xCall f_turn (xsC (xV 5) (xsC (xCall f_stretch (xsC (x2 ixD (xV 0) (xV 2)) (xsC (x2 ixD (xV 0) (xV 4)) (xsN)))) (xsN)))) (xC (.int 0)))))) (sRet (xC (.bl false))) (sN))
noncomputable def b2_is_bank : SS :=
  sSeq (sSet [2, 1] 3 (x2 modD (x2 addD (xV 2) (xC (.int 1))) (xV 1)))
  (sFor [] (itR1 (xV 1)) (gN 4) (b1_is_bank))
noncomputable def s_is_bank : SS :=
  sSeq (sSet [0] 1 (xF lenD' (xsC (xV 0) (xsN))))
  (sSeq (sIf (Dv.tOr (tOf (x2 ltD (xV 1) (xC (.int 3)))) (tOf (x2 gtD (xV 1) (xC (.int 8))))) (sRet (xC (.bl false))) (sN))
  (sSeq (sFor [] (itR1 (xV 1)) (gN 2) (b2_is_bank))
  (sRet (xC (.bl true)))))
noncomputable def f_is_bank : List O → Option O := fnD 1 6 s_is_bank

-- def law(_law_script): _law_script=0 _law_some=1 _law_row=2 _law_k=3 _law_handed=4 _law_found=5
noncomputable def b1_law : SS :=
  sIf (tOf (x2 gtD (xF lenD' (xsC (xV 2) (xsN))) (xC (.int 0)))) (sSet [1, 2] 2 (xSl (xCall f__law_bent (xsC (xSl (xV 1) (pI (x2 addD (xC (.int 11)) (x2 mulD (xC (.int 4)) (xV 3)))) pN) (xsC (xV 2) (xsN)))) pN (pI (xC (.int 12))))) (sN)
noncomputable def s_law : SS :=
  sSeq (sSet [0] 1 (xCall f__law_draws (xsC (xV 0) (xsC (xC (.int 40)) (xsN)))))
  (sSeq (sSet [1, 1] 2 (xCall f__law_bank (xsC (xV 1) (xsC (x2 ixD (xLst (xsC (xC (.int 3)) (xsC (xC (.int 20)) (xsC (xC (.int 90)) (xsN))))) (x2 modD (x2 ixD (xV 1) (xC (.int 9))) (xC (.int 3)))) (xsN)))))
  (sSeq (sFor [] (itR1 (x2 modD (x2 ixD (xV 1) (xC (.int 10))) (xC (.int 3)))) (gN 3) (b1_law))
  (sSeq (sIf (tOf (x2 eqD (x2 modD (x2 fdivD (x2 ixD (xV 1) (xC (.int 10))) (xC (.int 3))) (xC (.int 9))) (xC (.int 0)))) (sSet [2] 2 (xSl (xV 2) pN (pI (x2 modD (x2 ixD (xV 1) (xC (.int 11))) (xC (.int 3)))))) (sN))
  (sSeq (sSet [2] 4 (xF listE (xsC (xV 2) (xsN))))
  (sSeq (sSet [4] 5 (xCall f_is_bank (xsC (xV 4) (xsN))))
  (sRet (xAnd (x1 (isiD .bool) (xV 5)) (xAnd (x2 eqD (xV 4) (xV 2)) (x2 eqD (xV 5) (xCall f__law_is_round (xsC (xV 2) (xsN))))))))))))
noncomputable def f_law : List O → Option O := fnD 1 6 s_law

-- (not reached)
-- def measure(one, other): one=0 other=1
noncomputable def c1_measure : ST :=
  tOf (x2 gtD (xV 1) (xC (.int 0)))
noncomputable def b1_measure : SS :=
  sPar [1, 0, 1] 0 1 (xsC (xV 1) (xsC (x2 modD (xV 0) (xV 1)) (xsN)))
noncomputable def s_measure : SS :=
  sSeq (sSet [0] 0 (xF absD (xsC (xV 0) (xsN))))
  (sSeq (sSet [1] 1 (xF absD (xsC (xV 1) (xsN))))
  (sSeq (sWhl (c1_measure) (b1_measure))
  (sRetV 0)))
noncomputable def f_measure : List O → Option O := fnD 2 2 s_measure

-- (not reached)
-- def part(top, bottom): top=0 bottom=1 by=2
noncomputable def s_part : SS :=
  sSeq (sIf (tOf (x2 ltD (xV 1) (xC (.int 0)))) (sPar [0, 1] 0 1 (xsC (x1 negD (xV 0)) (xsC (x1 negD (xV 1)) (xsN)))) (sN))
  (sSeq (sSet [0, 1] 2 (xCall f_measure (xsC (xV 0) (xsC (xV 1) (xsN)))))
  (sRet (xTup (xsC (x2 fdivD (xV 0) (xV 2)) (xsC (x2 fdivD (xV 1) (xV 2)) (xsN))))))
noncomputable def f_part : List O → Option O := fnD 2 3 s_part

-- (not reached)
-- def plus(one, other): one=0 other=1
noncomputable def s_plus : SS :=
  sRet (xCall f_part (xsC (x2 addD (x2 mulD (x2 ixD (xV 0) (xC (.int 0))) (x2 ixD (xV 1) (xC (.int 1)))) (x2 mulD (x2 ixD (xV 1) (xC (.int 0))) (x2 ixD (xV 0) (xC (.int 1))))) (xsC (x2 mulD (x2 ixD (xV 0) (xC (.int 1))) (x2 ixD (xV 1) (xC (.int 1)))) (xsN))))
noncomputable def f_plus : List O → Option O := fnD 2 2 s_plus

-- (not reached)
-- def times(one, other): one=0 other=1
noncomputable def s_times : SS :=
  sRet (xCall f_part (xsC (x2 mulD (x2 ixD (xV 0) (xC (.int 0))) (x2 ixD (xV 1) (xC (.int 0)))) (xsC (x2 mulD (x2 ixD (xV 0) (xC (.int 1))) (x2 ixD (xV 1) (xC (.int 1)))) (xsN))))
noncomputable def f_times : List O → Option O := fnD 2 2 s_times

-- (not reached)
-- def below(one, other): one=0 other=1
noncomputable def s_below : SS :=
  sRet (x2 ltD (x2 mulD (x2 ixD (xV 0) (xC (.int 0))) (x2 ixD (xV 1) (xC (.int 1)))) (x2 mulD (x2 ixD (xV 1) (xC (.int 0))) (x2 ixD (xV 0) (xC (.int 1)))))
noncomputable def f_below : List O → Option O := fnD 2 2 s_below

-- (not reached)
-- def spot(x, y, w): x=0 y=1 w=2 by=3
noncomputable def s_spot : SS :=
  sSeq (sIf (tOf (x2 ltD (xV 2) (xC (.int 0)))) (sPar3 [0, 1, 2] 0 1 2 (xsC (x1 negD (xV 0)) (xsC (x1 negD (xV 1)) (xsC (x1 negD (xV 2)) (xsN))))) (sN))
  (sSeq (sSet [0, 1, 2] 3 (xCall f_measure (xsC (xCall f_measure (xsC (xV 0) (xsC (xV 1) (xsN)))) (xsC (xV 2) (xsN)))))
  (sRet (xTup (xsC (x2 fdivD (xV 0) (xV 3)) (xsC (x2 fdivD (xV 1) (xV 3)) (xsC (x2 fdivD (xV 2) (xV 3)) (xsN)))))))
noncomputable def f_spot : List O → Option O := fnD 3 4 s_spot

-- (not reached)
-- def ahead(one, other): one=0 other=1 here=2 there=3
noncomputable def s_ahead : SS :=
  sSeq (sSet [0, 1] 2 (x2 mulD (x2 ixD (xV 0) (xC (.int 0))) (x2 ixD (xV 1) (xC (.int 2)))))
  (sSeq (sSet [1, 0] 3 (x2 mulD (x2 ixD (xV 1) (xC (.int 0))) (x2 ixD (xV 0) (xC (.int 2)))))
  (sSeq (sIf (tOf (x2 neD (xV 2) (xV 3))) (sRet (x2 ltD (xV 2) (xV 3))) (sN))
  (sRet (x2 ltD (x2 mulD (x2 ixD (xV 0) (xC (.int 1))) (x2 ixD (xV 1) (xC (.int 2)))) (x2 mulD (x2 ixD (xV 1) (xC (.int 1))) (x2 ixD (xV 0) (xC (.int 2))))))))
noncomputable def f_ahead : List O → Option O := fnD 2 4 s_ahead

-- (not reached)
-- def in_order(spots): spots=0 found=1 one=2 at=3
noncomputable def c1_in_order : ST :=
  Dv.tAnd (tOf (x2 ltD (xV 3) (xF lenD' (xsC (xV 1) (xsN))))) (Dv.tNot (tOf (xCall f_ahead (xsC (xV 2) (xsC (x2 ixD (xV 1) (xV 3)) (xsN))))))
noncomputable def b1_in_order : SS :=
  sAugI 3 addD (xC (.int 1))
noncomputable def b2_in_order : SS :=
  sSeq (sSet [] 3 (xC (.int 0)))
  (sSeq (sWhl (c1_in_order) (b1_in_order))
  (sMet mIns 1 (xsC (xV 3) (xsC (xV 2) (xsN)))))
noncomputable def s_in_order : SS :=
  sSeq (sSet [] 1 (xLst (xsN)))
  (sSeq (sFor [0] (itL (xV 0)) (gN 2) (b2_in_order))
  (sRetV 1))
noncomputable def f_in_order : List O → Option O := fnD 1 4 s_in_order

-- (not reached)
-- def plain(direction): direction=0 by=1
noncomputable def s_plain : SS :=
  sSeq (sSet [0, 0] 1 (xCall f_measure (xsC (x2 ixD (xV 0) (xC (.int 0))) (xsC (x2 ixD (xV 0) (xC (.int 1))) (xsN)))))
  (sRet (xTup (xsC (x2 fdivD (x2 ixD (xV 0) (xC (.int 0))) (xV 1)) (xsC (x2 fdivD (x2 ixD (xV 0) (xC (.int 1))) (xV 1)) (xsN)))))
noncomputable def f_plain : List O → Option O := fnD 1 2 s_plain

-- (not reached)
-- def plain_side(side): side=0 by=1
noncomputable def s_plain_side : SS :=
  sSeq (sSet [0, 0, 0] 1 (xCall f_measure (xsC (xCall f_measure (xsC (x2 ixD (xV 0) (xC (.int 0))) (xsC (x2 ixD (xV 0) (xC (.int 1))) (xsN)))) (xsC (x2 ixD (xV 0) (xC (.int 2))) (xsN)))))
  (sRet (xTup (xsC (x2 fdivD (x2 ixD (xV 0) (xC (.int 0))) (xV 1)) (xsC (x2 fdivD (x2 ixD (xV 0) (xC (.int 1))) (xV 1)) (xsC (x2 fdivD (x2 ixD (xV 0) (xC (.int 2))) (xV 1)) (xsN))))))
noncomputable def f_plain_side : List O → Option O := fnD 1 2 s_plain_side

-- (not reached)
-- def along(side, place): side=0 place=1
noncomputable def s_along : SS :=
  sRet (x2 addD (x2 mulD (x2 ixD (xV 0) (xC (.int 0))) (x2 ixD (xV 1) (xC (.int 0)))) (x2 mulD (x2 ixD (xV 0) (xC (.int 1))) (x2 ixD (xV 1) (xC (.int 1)))))
noncomputable def f_along : List O → Option O := fnD 2 2 s_along

-- (not reached)
-- def holds(side, place): side=0 place=1
noncomputable def s_holds : SS :=
  sRet (x2 leD (xCall f_along (xsC (xV 0) (xsC (xV 1) (xsN)))) (x2 mulD (x2 ixD (xV 0) (xC (.int 2))) (x2 ixD (xV 1) (xC (.int 2)))))
noncomputable def f_holds : List O → Option O := fnD 2 2 s_holds

-- (not reached)
-- def on_edge(side, place): side=0 place=1
noncomputable def s_on_edge : SS :=
  sRet (x2 eqD (xCall f_along (xsC (xV 0) (xsC (xV 1) (xsN)))) (x2 mulD (x2 ixD (xV 0) (xC (.int 2))) (x2 ixD (xV 1) (xC (.int 2)))))
noncomputable def f_on_edge : List O → Option O := fnD 2 2 s_on_edge

-- (not reached)
-- def crossing(one, other): one=0 other=1 by=2 x=3 y=4
noncomputable def s_crossing : SS :=
  sSeq (sSet [0, 1] 2 (xCall f_turn (xsC (xV 0) (xsC (xV 1) (xsN)))))
  (sSeq (sIf (tOf (x2 eqD (xV 2) (xC (.int 0)))) (sRet (xC .non)) (sN))
  (sSeq (sSet [0, 1, 1, 0] 3 (x2 subD (x2 mulD (x2 ixD (xV 0) (xC (.int 2))) (x2 ixD (xV 1) (xC (.int 1)))) (x2 mulD (x2 ixD (xV 1) (xC (.int 2))) (x2 ixD (xV 0) (xC (.int 1))))))
  (sSeq (sSet [0, 1, 1, 0] 4 (x2 subD (x2 mulD (x2 ixD (xV 0) (xC (.int 0))) (x2 ixD (xV 1) (xC (.int 2)))) (x2 mulD (x2 ixD (xV 1) (xC (.int 0))) (x2 ixD (xV 0) (xC (.int 2))))))
  (sRet (xCall f_spot (xsC (xV 3) (xsC (xV 4) (xsC (xV 2) (xsN)))))))))
noncomputable def f_crossing : List O → Option O := fnD 2 5 s_crossing

-- (not reached)
-- def pushed(side, x, y): side=0 x=1 y=2
noncomputable def s_pushed : SS :=
  sRet (xTup (xsC (x2 ixD (xV 0) (xC (.int 0))) (xsC (x2 ixD (xV 0) (xC (.int 1))) (xsC (x2 addD (x2 addD (x2 ixD (xV 0) (xC (.int 2))) (x2 mulD (x2 ixD (xV 0) (xC (.int 0))) (xV 1))) (x2 mulD (x2 ixD (xV 0) (xC (.int 1))) (xV 2))) (xsN)))))
noncomputable def f_pushed : List O → Option O := fnD 3 3 s_pushed

-- (not reached)
-- def bearing_sides(place, one, other): place=0 one=1 other=2 x=3 y=4 first=5 second=6
noncomputable def s_bearing_sides : SS :=
  sSeq (sAsg [0] (xV 0) (gT 2 (gsC (gN 3) (gsC (gN 4) (gsN)))))
  (sSeq (sSet [1, 1, 1, 4, 1, 3] 5 (xTup (xsC (x1 negD (x2 ixD (xV 1) (xC (.int 1)))) (xsC (x2 ixD (xV 1) (xC (.int 0))) (xsC (x2 subD (x2 mulD (x2 ixD (xV 1) (xC (.int 0))) (xV 4)) (x2 mulD (x2 ixD (xV 1) (xC (.int 1))) (xV 3))) (xsN))))))
  (sSeq (sSet [2, 2, 2, 3, 2, 4] 6 (xTup (xsC (x2 ixD (xV 2) (xC (.int 1))) (xsC (x1 negD (x2 ixD (xV 2) (xC (.int 0)))) (xsC (x2 subD (x2 mulD (x2 ixD (xV 2) (xC (.int 1))) (xV 3)) (x2 mulD (x2 ixD (xV 2) (xC (.int 0))) (xV 4))) (xsN))))))
  (sRet (xLst (xsC (xCall f_plain_side (xsC (xV 5) (xsN))) (xsC (xCall f_plain_side (xsC (xV 6) (xsN))) (xsN)))))))
noncomputable def f_bearing_sides : List O → Option O := fnD 3 7 s_bearing_sides

-- (not reached)
-- def range_side(left, right): left=0 right=1 x=2 y=3
noncomputable def s_range_side : SS :=
  sSeq (sAsg [1] (xV 1) (gT 2 (gsC (gN 2) (gsC (gN 3) (gsN)))))
  (sRet (xCall f_plain_side (xsC (xTup (xsC (x2 subD (x2 ixD (xV 0) (xC (.int 1))) (xV 3)) (xsC (x2 subD (xV 2) (x2 ixD (xV 0) (xC (.int 0)))) (xsC (x2 subD (x2 mulD (xV 2) (x2 ixD (xV 0) (xC (.int 1)))) (x2 mulD (xV 3) (x2 ixD (xV 0) (xC (.int 0))))) (xsN))))) (xsN))))
noncomputable def f_range_side : List O → Option O := fnD 2 4 s_range_side

-- (not reached)
-- def in_all(sides, place): sides=0 place=1 side=2
noncomputable def b1_in_all : SS :=
  sIf (Dv.tNot (tOf (xCall f_holds (xsC (xV 2) (xsC (xV 1) (xsN)))))) (sRet (xC (.bl false))) (sN)
noncomputable def s_in_all : SS :=
  sSeq (sFor [0] (itL (xV 0)) (gN 2) (b1_in_all))
  (sRet (xC (.bl true)))
noncomputable def f_in_all : List O → Option O := fnD 2 3 s_in_all

-- (not reached)
-- def foot(side): side=0
noncomputable def s_foot : SS :=
  sRet (xCall f_spot (xsC (x2 mulD (x2 ixD (xV 0) (xC (.int 0))) (x2 ixD (xV 0) (xC (.int 2)))) (xsC (x2 mulD (x2 ixD (xV 0) (xC (.int 1))) (x2 ixD (xV 0) (xC (.int 2)))) (xsC (x2 addD (x2 mulD (x2 ixD (xV 0) (xC (.int 0))) (x2 ixD (xV 0) (xC (.int 0)))) (x2 mulD (x2 ixD (xV 0) (xC (.int 1))) (x2 ixD (xV 0) (xC (.int 1))))) (xsN)))))
noncomputable def f_foot : List O → Option O := fnD 1 1 s_foot

-- (not reached)
-- def crossings(sides): sides=0 found=1 at=2 one=3 other=4 place=5
noncomputable def b1_crossings : SS :=
  sSeq (sSet [3, 4] 5 (xCall f_crossing (xsC (xV 3) (xsC (xV 4) (xsN)))))
  (sIf (tOf (x2 notN2 (xV 5) (xC .non))) (sDput 1 (xV 5) (xC (.bl true))) (sN))
noncomputable def b2_crossings : SS :=
  sFor [0] (itL (xSl (xV 0) (pI (x2 addD (xV 2) (xC (.int 1)))) pN)) (gN 4) (b1_crossings)
noncomputable def s_crossings : SS :=
  sSeq (sSet [] 1 (xDnew))
  (sSeq (sFor [0] (itEn (xV 0)) (gT 2 (gsC (gN 2) (gsC (gN 3) (gsN)))) (b2_crossings))
  (sRet (xF listE (xsC (xV 1) (xsN)))))
noncomputable def f_crossings : List O → Option O := fnD 1 6 s_crossings

-- (not reached)
-- def corners(sides): sides=0 place=1
noncomputable def s_corners : SS :=
  sRet (xCall f_in_order (xsC (xLc [0] [1] (itL (xCall f_crossings (xsC (xV 0) (xsN)))) (gN 1) (tOf (xCall f_in_all (xsC (xV 0) (xsC (xV 1) (xsN))))) (xV 1)) (xsN)))
noncomputable def f_corners : List O → Option O := fnD 1 2 s_corners

-- (not reached)
-- def some_spot(sides): sides=0 place=1 side=2
noncomputable def b1_some_spot : SS :=
  sIf (tOf (xCall f_in_all (xsC (xV 0) (xsC (xV 1) (xsN))))) (sRetV 1) (sN)
noncomputable def b2_some_spot : SS :=
  sIf (tOf (xCall f_in_all (xsC (xV 0) (xsC (xCall f_foot (xsC (xV 2) (xsN))) (xsN))))) (sRet (xCall f_foot (xsC (xV 2) (xsN)))) (sN)
noncomputable def s_some_spot : SS :=
  sSeq (sIf (tOf (x2 eqD (xF lenD' (xsC (xV 0) (xsN))) (xC (.int 0)))) (sRet (xTup (xsC (xC (.int 0)) (xsC (xC (.int 0)) (xsC (xC (.int 1)) (xsN)))))) (sN))
  (sSeq (sFor [0] (itL (xCall f_crossings (xsC (xV 0) (xsN)))) (gN 1) (b1_some_spot))
  (sSeq (sFor [0] (itL (xV 0)) (gN 2) (b2_some_spot))
  (sRet (xC .non))))
noncomputable def f_some_spot : List O → Option O := fnD 1 3 s_some_spot

-- (not reached)
-- def is_way(sides, direction): sides=0 direction=1 side=2
noncomputable def b1_is_way : SS :=
  sIf (tOf (x2 gtD (x2 addD (x2 mulD (x2 ixD (xV 2) (xC (.int 0))) (x2 ixD (xV 1) (xC (.int 0)))) (x2 mulD (x2 ixD (xV 2) (xC (.int 1))) (x2 ixD (xV 1) (xC (.int 1))))) (xC (.int 0)))) (sRet (xC (.bl false))) (sN)
noncomputable def s_is_way : SS :=
  sSeq (sFor [0] (itL (xV 0)) (gN 2) (b1_is_way))
  (sRet (xC (.bl true)))
noncomputable def f_is_way : List O → Option O := fnD 2 3 s_is_way

-- (not reached)
-- def ways(sides): sides=0 found=1 side=2 direction=3
noncomputable def b1_ways : SS :=
  sIf (tOf (xCall f_is_way (xsC (xV 0) (xsC (xV 3) (xsN))))) (sDput 1 (xV 3) (xC (.bl true))) (sN)
noncomputable def b2_ways : SS :=
  sFor [2, 2, 2, 2] (itL (xTup (xsC (xCall f_plain (xsC (xTup (xsC (x2 ixD (xV 2) (xC (.int 1))) (xsC (x1 negD (x2 ixD (xV 2) (xC (.int 0)))) (xsN)))) (xsN))) (xsC (xCall f_plain (xsC (xTup (xsC (x1 negD (x2 ixD (xV 2) (xC (.int 1)))) (xsC (x2 ixD (xV 2) (xC (.int 0))) (xsN)))) (xsN))) (xsN))))) (gN 3) (b1_ways)
noncomputable def s_ways : SS :=
  sSeq (sSet [] 1 (xDnew))
  (sSeq (sFor [0] (itL (xV 0)) (gN 2) (b2_ways))
  (sRet (xF sortE (xsC (xF listE (xsC (xV 1) (xsN))) (xsN)))))
noncomputable def f_ways : List O → Option O := fnD 1 4 s_ways

-- (not reached)
-- def closed(sides): sides=0
noncomputable def s_closed : SS :=
  sRet (xAnd (x2 gtD (xF lenD' (xsC (xV 0) (xsN))) (xC (.int 0))) (xAnd (x2 eqD (xF lenD' (xsC (xCall f_ways (xsC (xV 0) (xsN))) (xsN))) (xC (.int 0))) (x2 notN2 (xCall f_some_spot (xsC (xV 0) (xsN))) (xC .non))))
noncomputable def f_closed : List O → Option O := fnD 1 1 s_closed

-- (not reached)
-- def threefold(one, other, third): one=0 other=1 third=2 first=3 second=4
noncomputable def s_threefold : SS :=
  sSeq (sSet [0, 1, 2, 2, 1] 3 (x2 mulD (x2 ixD (xV 0) (xC (.int 0))) (x2 subD (x2 mulD (x2 ixD (xV 1) (xC (.int 1))) (x2 ixD (xV 2) (xC (.int 2)))) (x2 mulD (x2 ixD (xV 2) (xC (.int 1))) (x2 ixD (xV 1) (xC (.int 2)))))))
  (sSeq (sSet [0, 1, 2, 2, 1] 4 (x2 mulD (x2 ixD (xV 0) (xC (.int 1))) (x2 subD (x2 mulD (x2 ixD (xV 1) (xC (.int 0))) (x2 ixD (xV 2) (xC (.int 2)))) (x2 mulD (x2 ixD (xV 2) (xC (.int 0))) (x2 ixD (xV 1) (xC (.int 2)))))))
  (sRet (x2 addD (x2 subD (xV 3) (xV 4)) (x2 mulD (x2 ixD (xV 0) (xC (.int 2))) (x2 subD (x2 mulD (x2 ixD (xV 1) (xC (.int 0))) (x2 ixD (xV 2) (xC (.int 1)))) (x2 mulD (x2 ixD (xV 2) (xC (.int 0))) (x2 ixD (xV 1) (xC (.int 1)))))))))
noncomputable def f_threefold : List O → Option O := fnD 3 5 s_threefold

-- (not reached)
-- def ring(sides): sides=0 row=1 found=2 place=3 at=4
noncomputable def c1_ring : ST :=
  Dv.tAnd (tOf (x2 ltD (xV 4) (xF lenD' (xsC (xV 2) (xsN))))) (tOf (x2 gtD (xCall f_threefold (xsC (x2 ixD (xV 1) (xC (.int 0))) (xsC (x2 ixD (xV 2) (xV 4)) (xsC (xV 3) (xsN))))) (xC (.int 0))))
noncomputable def b1_ring : SS :=
  sAugI 4 addD (xC (.int 1))
noncomputable def b2_ring : SS :=
  sSeq (sSet [] 4 (xC (.int 0)))
  (sSeq (sWhl (c1_ring) (b1_ring))
  (sMet mIns 2 (xsC (xV 4) (xsC (xV 3) (xsN)))))
noncomputable def s_ring : SS :=
  sSeq (sSet [0] 1 (xCall f_corners (xsC (xV 0) (xsN))))
  (sSeq (sSet [] 2 (xLst (xsN)))
  (sSeq (sFor [1] (itL (xSl (xV 1) (pI (xC (.int 1))) pN)) (gN 3) (b2_ring))
  (sRet (x2 addD (xSl (xV 1) pN (pI (xC (.int 1)))) (xV 2)))))
noncomputable def f_ring : List O → Option O := fnD 1 5 s_ring

-- (not reached)
-- def area(sides): sides=0 row=1 found=2 one=3 other=4
noncomputable def b1_area : SS :=
  sSet [2, 1, 3, 4, 1, 3, 4] 2 (xCall f_plus (xsC (xV 2) (xsC (xCall f_part (xsC (xCall f_threefold (xsC (x2 ixD (xV 1) (xC (.int 0))) (xsC (xV 3) (xsC (xV 4) (xsN))))) (xsC (x2 mulD (x2 mulD (x2 mulD (xC (.int 2)) (x2 ixD (x2 ixD (xV 1) (xC (.int 0))) (xC (.int 2)))) (x2 ixD (xV 3) (xC (.int 2)))) (x2 ixD (xV 4) (xC (.int 2)))) (xsN)))) (xsN))))
noncomputable def s_area : SS :=
  sSeq (sIf (tOf (x2 isN2 (xCall f_some_spot (xsC (xV 0) (xsN))) (xC .non))) (sRet (xC (.kt [0, 1]))) (sN))
  (sSeq (sIf (Dv.tNot (tOf (xCall f_closed (xsC (xV 0) (xsN))))) (sRet (xC .non)) (sN))
  (sSeq (sSet [0] 1 (xCall f_ring (xsC (xV 0) (xsN))))
  (sSeq (sSet [] 2 (xC (.kt [0, 1])))
  (sSeq (sFor [1, 1] (itZ (xSl (xV 1) (pI (xC (.int 1))) pN) (xSl (xV 1) (pI (xC (.int 2))) pN)) (gT 2 (gsC (gN 3) (gsC (gN 4) (gsN)))) (b1_area))
  (sRetV 2)))))
noncomputable def f_area : List O → Option O := fnD 1 5 s_area

-- (not reached)
-- def two_weights(one, other): one=0 other=1 weights=2 by=3
noncomputable def s_two_weights : SS :=
  sSeq (sIf (Dv.tOr (tOf (x2 neD (xCall f_turn (xsC (xV 0) (xsC (xV 1) (xsN)))) (xC (.int 0)))) (tOf (x2 geD (xCall f_along (xsC (xV 0) (xsC (xV 1) (xsN)))) (xC (.int 0))))) (sRet (xC .non)) (sN))
  (sSeq (sSet [1, 0] 2 (xTup (xsC (xF absD (xsC (x2 ixD (xV 1) (xC (.int 0))) (xsN))) (xsC (xF absD (xsC (x2 ixD (xV 0) (xC (.int 0))) (xsN))) (xsN)))))
  (sSeq (sIf (tOf (x2 eqD (x2 ixD (xV 0) (xC (.int 0))) (xC (.int 0)))) (sSet [1, 0] 2 (xTup (xsC (xF absD (xsC (x2 ixD (xV 1) (xC (.int 1))) (xsN))) (xsC (xF absD (xsC (x2 ixD (xV 0) (xC (.int 1))) (xsN))) (xsN))))) (sN))
  (sSeq (sSet [2, 2] 3 (xCall f_measure (xsC (x2 ixD (xV 2) (xC (.int 0))) (xsC (x2 ixD (xV 2) (xC (.int 1))) (xsN)))))
  (sRet (xTup (xsC (x2 fdivD (x2 ixD (xV 2) (xC (.int 0))) (xV 3)) (xsC (x2 fdivD (x2 ixD (xV 2) (xC (.int 1))) (xV 3)) (xsN))))))))
noncomputable def f_two_weights : List O → Option O := fnD 2 4 s_two_weights

-- (not reached)
-- def three_weights(one, other, third): one=0 other=1 third=2 weights=3 by=4
noncomputable def s_three_weights : SS :=
  sSeq (sSet [1, 2, 2, 0, 0, 1] 3 (xTup (xsC (xCall f_turn (xsC (xV 1) (xsC (xV 2) (xsN)))) (xsC (xCall f_turn (xsC (xV 2) (xsC (xV 0) (xsN)))) (xsC (xCall f_turn (xsC (xV 0) (xsC (xV 1) (xsN)))) (xsN))))))
  (sSeq (sIf (Dv.tAnd (tOf (x2 leD (xF minS (xsC (xV 3) (xsN))) (xC (.int 0)))) (tOf (x2 geD (xF maxS (xsC (xV 3) (xsN))) (xC (.int 0))))) (sRet (xC .non)) (sN))
  (sSeq (sSet [3, 3, 3] 4 (xCall f_measure (xsC (xCall f_measure (xsC (x2 ixD (xV 3) (xC (.int 0))) (xsC (x2 ixD (xV 3) (xC (.int 1))) (xsN)))) (xsC (x2 ixD (xV 3) (xC (.int 2))) (xsN)))))
  (sRet (xTup (xsC (x2 fdivD (xF absD (xsC (x2 ixD (xV 3) (xC (.int 0))) (xsN))) (xV 4)) (xsC (x2 fdivD (xF absD (xsC (x2 ixD (xV 3) (xC (.int 1))) (xsN))) (xV 4)) (xsC (x2 fdivD (xF absD (xsC (x2 ixD (xV 3) (xC (.int 2))) (xsN))) (xV 4)) (xsN))))))))
noncomputable def f_three_weights : List O → Option O := fnD 3 5 s_three_weights

-- (not reached)
-- def clash_of_two(sides): sides=0 at=1 one=2 to=3 weights=4
noncomputable def b1_clash_of_two : SS :=
  sSeq (sSet [2, 0, 3] 4 (xCall f_two_weights (xsC (xV 2) (xsC (x2 ixD (xV 0) (xV 3)) (xsN)))))
  (sIf (Dv.tAnd (tOf (x2 notN2 (xV 4) (xC .non))) (tOf (x2 ltD (x2 addD (x2 mulD (x2 ixD (xV 4) (xC (.int 0))) (x2 ixD (xV 2) (xC (.int 2)))) (x2 mulD (x2 ixD (xV 4) (xC (.int 1))) (x2 ixD (x2 ixD (xV 0) (xV 3)) (xC (.int 2))))) (xC (.int 0))))) (sRet (xLst (xsC (xTup (xsC (xV 1) (xsC (x2 ixD (xV 4) (xC (.int 0))) (xsN)))) (xsC (xTup (xsC (xV 3) (xsC (x2 ixD (xV 4) (xC (.int 1))) (xsN)))) (xsN))))) (sN))
noncomputable def b2_clash_of_two : SS :=
  sFor [] (itR2 (x2 addD (xV 1) (xC (.int 1))) (xF lenD' (xsC (xV 0) (xsN)))) (gN 3) (b1_clash_of_two)
noncomputable def s_clash_of_two : SS :=
  sSeq (sFor [0] (itEn (xV 0)) (gT 2 (gsC (gN 1) (gsC (gN 2) (gsN)))) (b2_clash_of_two))
  (sRet (xC .non))
noncomputable def f_clash_of_two : List O → Option O := fnD 1 5 s_clash_of_two

-- (not reached)
-- def third_of(sides, at, to): sides=0 at=1 to=2 third=3 weights=4 total=5
noncomputable def b1_third_of : SS :=
  sSeq (sSet [0, 1, 0, 2, 0, 3] 4 (xCall f_three_weights (xsC (x2 ixD (xV 0) (xV 1)) (xsC (x2 ixD (xV 0) (xV 2)) (xsC (x2 ixD (xV 0) (xV 3)) (xsN))))))
  (sIf (tOf (x2 notN2 (xV 4) (xC .non))) (sSeq (sSet [4, 0, 1, 4, 0, 2, 4, 0, 3] 5 (x2 addD (x2 addD (x2 mulD (x2 ixD (xV 4) (xC (.int 0))) (x2 ixD (x2 ixD (xV 0) (xV 1)) (xC (.int 2)))) (x2 mulD (x2 ixD (xV 4) (xC (.int 1))) (x2 ixD (x2 ixD (xV 0) (xV 2)) (xC (.int 2))))) (x2 mulD (x2 ixD (xV 4) (xC (.int 2))) (x2 ixD (x2 ixD (xV 0) (xV 3)) (xC (.int 2))))))
  (sIf (tOf (x2 ltD (xV 5) (xC (.int 0)))) (sRet (xLst (xsC (xTup (xsC (xV 1) (xsC (x2 ixD (xV 4) (xC (.int 0))) (xsN)))) (xsC (xTup (xsC (xV 2) (xsC (x2 ixD (xV 4) (xC (.int 1))) (xsN)))) (xsC (xTup (xsC (xV 3) (xsC (x2 ixD (xV 4) (xC (.int 2))) (xsN)))) (xsN)))))) (sN))) (sN))
noncomputable def s_third_of : SS :=
  sSeq (sFor [] (itR2 (x2 addD (xV 2) (xC (.int 1))) (xF lenD' (xsC (xV 0) (xsN)))) (gN 3) (b1_third_of))
  (sRet (xC .non))
noncomputable def f_third_of : List O → Option O := fnD 3 6 s_third_of

-- (not reached)
-- def clash(sides): sides=0 found=1 at=2 to=3
noncomputable def b1_clash : SS :=
  sIf (tOf (x2 isN2 (xV 1) (xC .non))) (sSet [0, 2, 3] 1 (xCall f_third_of (xsC (xV 0) (xsC (xV 2) (xsC (xV 3) (xsN)))))) (sN)
noncomputable def b2_clash : SS :=
  sFor [] (itR2 (x2 addD (xV 2) (xC (.int 1))) (xF lenD' (xsC (xV 0) (xsN)))) (gN 3) (b1_clash)
noncomputable def s_clash : SS :=
  sSeq (sSet [0] 1 (xCall f_clash_of_two (xsC (xV 0) (xsN))))
  (sSeq (sFor [] (itR1 (xF lenD' (xsC (xV 0) (xsN)))) (gN 2) (b2_clash))
  (sRetV 1))
noncomputable def f_clash : List O → Option O := fnD 1 4 s_clash

-- (not reached)
-- def open_way(sides, direction): sides=0 direction=1 some=2 one=3 side=4
noncomputable def b1_open_way : SS :=
  sIf (Dv.tAnd (tOf (x2 gtD (xCall f_along (xsC (xV 1) (xsC (xV 3) (xsN)))) (xC (.int 0)))) (tOf (xCall f_is_way (xsC (xV 0) (xsC (xV 3) (xsN)))))) (sRetV 3) (sN)
noncomputable def s_open_way : SS :=
  sSeq (sSet [1, 0, 0] 2 (x2 addD (x2 addD (xLst (xsC (xCall f_plain (xsC (xV 1) (xsN))) (xsN))) (xCall f_ways (xsC (xV 0) (xsN)))) (xLc [0] [4] (itL (xV 0)) (gN 4) (tY) (xCall f_plain (xsC (xTup (xsC (x1 negD (x2 ixD (xV 4) (xC (.int 0)))) (xsC (x1 negD (x2 ixD (xV 4) (xC (.int 1)))) (xsN)))) (xsN))))))
  (sSeq (sFor [2] (itL (xV 2)) (gN 3) (b1_open_way))
  (sRet (xC .non)))
noncomputable def f_open_way : List O → Option O := fnD 2 5 s_open_way

-- (not reached)
-- def pair_far(sides, direction, at, to): sides=0 direction=1 at=2 to=3 one=4 other=5 place=6 first=7 second=8 weights=9 number=10 weight=11
noncomputable def s_pair_far : SS :=
  sSeq (sSet [0, 2] 4 (x2 ixD (xV 0) (xV 2)))
  (sSeq (sSet [0, 3] 5 (x2 ixD (xV 0) (xV 3)))
  (sSeq (sSet [4, 5] 6 (xCall f_crossing (xsC (xV 4) (xsC (xV 5) (xsN)))))
  (sSeq (sIf (Dv.tOr (tOf (x2 isN2 (xV 6) (xC .non))) (Dv.tNot (tOf (xCall f_in_all (xsC (xV 0) (xsC (xV 6) (xsN))))))) (sRet (xC .non)) (sN))
  (sSeq (sSet [1, 5, 4, 5] 7 (xCall f_part (xsC (xCall f_turn (xsC (xV 1) (xsC (xV 5) (xsN)))) (xsC (xCall f_turn (xsC (xV 4) (xsC (xV 5) (xsN)))) (xsN)))))
  (sSeq (sSet [4, 1, 4, 5] 8 (xCall f_part (xsC (xCall f_turn (xsC (xV 4) (xsC (xV 1) (xsN)))) (xsC (xCall f_turn (xsC (xV 4) (xsC (xV 5) (xsN)))) (xsN)))))
  (sSeq (sIf (Dv.tOr (tOf (x2 ltD (x2 ixD (xV 7) (xC (.int 0))) (xC (.int 0)))) (tOf (x2 ltD (x2 ixD (xV 8) (xC (.int 0))) (xC (.int 0))))) (sRet (xC .non)) (sN))
  (sSeq (sSet [2, 7, 3, 8] 9 (xLc [2, 7, 3, 8] [10, 11] (itL (xTup (xsC (xTup (xsC (xV 2) (xsC (xV 7) (xsN)))) (xsC (xTup (xsC (xV 3) (xsC (xV 8) (xsN)))) (xsN))))) (gT 2 (gsC (gN 10) (gsC (gN 11) (gsN)))) (tOf (x2 gtD (x2 ixD (xV 11) (xC (.int 0))) (xC (.int 0)))) (xTup (xsC (xV 10) (xsC (xV 11) (xsN))))))
  (sRetM (xsC (xCl (xC (.str (PySem.Str.ofString "far")))) (xsC (get 6) (xsC (get 9) (xsN))))))))))))
noncomputable def f_pair_far : List O → Option O := fnD 4 12 s_pair_far

-- (not reached)
-- def lone_far(sides, direction): sides=0 direction=1 at=2 side=3 weight=4
noncomputable def b1_lone_far : SS :=
  sIf (Dv.tAnd (tOf (x2 eqD (xCall f_turn (xsC (xV 3) (xsC (xV 1) (xsN)))) (xC (.int 0)))) (Dv.tAnd (tOf (x2 gtD (xCall f_along (xsC (xV 3) (xsC (xV 1) (xsN)))) (xC (.int 0)))) (tOf (xCall f_in_all (xsC (xV 0) (xsC (xCall f_foot (xsC (xV 3) (xsN))) (xsN))))))) (sSeq (sSet [3, 1, 3, 3, 3, 3] 4 (xCall f_part (xsC (xCall f_along (xsC (xV 3) (xsC (xV 1) (xsN)))) (xsC (x2 addD (x2 mulD (x2 ixD (xV 3) (xC (.int 0))) (x2 ixD (xV 3) (xC (.int 0)))) (x2 mulD (x2 ixD (xV 3) (xC (.int 1))) (x2 ixD (xV 3) (xC (.int 1))))) (xsN)))))
  (sRet (xTup (xsC (xC (.str (PySem.Str.ofString "far"))) (xsC (xCall f_foot (xsC (xV 3) (xsN))) (xsC (xLst (xsC (xTup (xsC (xV 2) (xsC (xV 4) (xsN)))) (xsN))) (xsN))))))) (sN)
noncomputable def s_lone_far : SS :=
  sSeq (sFor [0] (itEn (xV 0)) (gT 2 (gsC (gN 2) (gsC (gN 3) (gsN)))) (b1_lone_far))
  (sRet (xC .non))
noncomputable def f_lone_far : List O → Option O := fnD 2 5 s_lone_far

-- (not reached)
-- def far(sides, direction): sides=0 direction=1 at=2 to=3 told=4
noncomputable def b1_far : SS :=
  sSeq (sSet [0, 1, 2, 3] 4 (xCall f_pair_far (xsC (xV 0) (xsC (xV 1) (xsC (xV 2) (xsC (xV 3) (xsN)))))))
  (sIf (tOf (x2 notN2 (xV 4) (xC .non))) (sRetV 4) (sN))
noncomputable def b2_far : SS :=
  sFor [] (itR2 (x2 addD (xV 2) (xC (.int 1))) (xF lenD' (xsC (xV 0) (xsN)))) (gN 3) (b1_far)
noncomputable def s_far : SS :=
  sSeq (sFor [] (itR1 (xF lenD' (xsC (xV 0) (xsN)))) (gN 2) (b2_far))
  (sRet (xCall f_lone_far (xsC (xV 0) (xsC (xV 1) (xsN)))))
noncomputable def f_far : List O → Option O := fnD 2 5 s_far

-- (not reached)
-- def reach(sides, direction): sides=0 direction=1 found=2 way=3
noncomputable def s_reach : SS :=
  sSeq (sSet [0] 2 (xCall f_clash (xsC (xV 0) (xsN))))
  (sSeq (sIf (tOf (x2 notN2 (xV 2) (xC .non))) (sRetM (xsC (xCl (xC (.str (PySem.Str.ofString "none")))) (xsC (get 2) (xsN)))) (sN))
  (sSeq (sSet [0, 1] 3 (xCall f_open_way (xsC (xV 0) (xsC (xV 1) (xsN)))))
  (sSeq (sIf (tOf (x2 notN2 (xV 3) (xC .non))) (sRetM (xsC (xCl (xC (.str (PySem.Str.ofString "open")))) (xsC (get 3) (xsN)))) (sN))
  (sRet (xCall f_far (xsC (xV 0) (xsC (xV 1) (xsN))))))))
noncomputable def f_reach : List O → Option O := fnD 2 4 s_reach

-- (not reached)
-- def all_sides(groups): groups=0 found=1 group=2
noncomputable def b1_all_sides : SS :=
  sExt 1 (xV 2)
noncomputable def s_all_sides : SS :=
  sSeq (sSet [] 1 (xLst (xsN)))
  (sSeq (sFor [0] (itL (xV 0)) (gN 2) (b1_all_sides))
  (sRetV 1))
noncomputable def f_all_sides : List O → Option O := fnD 1 3 s_all_sides

-- (not reached)
-- def doubted(groups, place): groups=0 place=1 at=2 group=3
noncomputable def s_doubted : SS :=
  sRet (xLc [0, 1] [2, 3] (itEn (xV 0)) (gT 2 (gsC (gN 2) (gsC (gN 3) (gsN)))) (Dv.tNot (tOf (xCall f_in_all (xsC (xV 3) (xsC (xV 1) (xsN)))))) (xV 2))
noncomputable def f_doubted : List O → Option O := fnD 2 4 s_doubted

-- (not reached)
-- def candidates(groups): groups=0 sides=1 side=2
noncomputable def s_candidates : SS :=
  sSeq (sSet [0] 1 (xCall f_all_sides (xsC (xV 0) (xsN))))
  (sRet (x2 addD (x2 addD (xLst (xsC (xTup (xsC (xC (.int 0)) (xsC (xC (.int 0)) (xsC (xC (.int 1)) (xsN))))) (xsN))) (xCall f_crossings (xsC (xV 1) (xsN)))) (xLc [1] [2] (itL (xV 1)) (gN 2) (tY) (xCall f_foot (xsC (xV 2) (xsN))))))
noncomputable def f_candidates : List O → Option O := fnD 1 3 s_candidates

-- (not reached)
-- def tried(groups): groups=0 rows=1 least=2 place=3 row=4
noncomputable def s_tried : SS :=
  sSeq (sSet [0] 1 (xLc [0] [3] (itL (xCall f_candidates (xsC (xV 0) (xsN)))) (gN 3) (tY) (xTup (xsC (xV 3) (xsC (xCall f_doubted (xsC (xV 0) (xsC (xV 3) (xsN)))) (xsN))))))
  (sSeq (sSet [1] 2 (xF minS (xsC (xLc [1] [3, 4] (itL (xV 1)) (gT 2 (gsC (gN 3) (gsC (gN 4) (gsN)))) (tY) (xF lenD' (xsC (xV 4) (xsN)))) (xsN))))
  (sRet (xLc [1, 2] [3, 4] (itL (xV 1)) (gT 2 (gsC (gN 3) (gsC (gN 4) (gsN)))) (tOf (x2 eqD (xF lenD' (xsC (xV 4) (xsN))) (xV 2))) (xTup (xsC (xV 3) (xsC (xV 4) (xsN)))))))
noncomputable def f_tried : List O → Option O := fnD 1 5 s_tried

-- (not reached)
-- def choices(groups): groups=0 found=1 place=2 row=3
noncomputable def b1_choices : SS :=
  sIf (tOf (x2 notInD (xV 3) (xV 1))) (sApp [3] 1 (xV 3)) (sN)
noncomputable def s_choices : SS :=
  sSeq (sSet [] 1 (xLst (xsN)))
  (sSeq (sFor [0] (itL (xCall f_tried (xsC (xV 0) (xsN)))) (gT 2 (gsC (gN 2) (gsC (gN 3) (gsN)))) (b1_choices))
  (sRet (xF sortE (xsC (xV 1) (xsN)))))
noncomputable def f_choices : List O → Option O := fnD 1 4 s_choices

-- (not reached)
-- def trusted(groups): groups=0
noncomputable def s_trusted : SS :=
  sRet (x2 ixD (xCall f_tried (xsC (xV 0) (xsN))) (xC (.int 0)))
noncomputable def f_trusted : List O → Option O := fnD 1 1 s_trusted

-- (not reached)
-- def bank_side(one, other): one=0 other=1 x=2 y=3
noncomputable def s_bank_side : SS :=
  sSeq (sAsg [0, 1] (xCall f_stretch (xsC (xV 0) (xsC (xV 1) (xsN)))) (gT 2 (gsC (gN 2) (gsC (gN 3) (gsN)))))
  (sRet (xCall f_plain_side (xsC (xTup (xsC (xV 3) (xsC (x1 negD (xV 2)) (xsC (x2 subD (x2 mulD (xV 3) (x2 ixD (xV 0) (xC (.int 0)))) (x2 mulD (xV 2) (x2 ixD (xV 0) (xC (.int 1))))) (xsN))))) (xsN))))
noncomputable def f_bank_side : List O → Option O := fnD 2 4 s_bank_side

-- (not reached)
-- def bank_sides(corners): corners=0 many=1 at=2
noncomputable def s_bank_sides : SS :=
  sSeq (sSet [0] 1 (xF lenD' (xsC (xV 0) (xsN))))
  (sRet (xLc [1, 0] [2] (itR1 (xV 1)) (gN 2) (tY) (xCall f_bank_side (xsC (x2 ixD (xV 0) (xV 2)) (xsC (x2 ixD (xV 0) (x2 modD (x2 addD (xV 2) (xC (.int 1))) (xV 1))) (xsN))))))
noncomputable def f_bank_sides : List O → Option O := fnD 1 3 s_bank_sides

-- (not reached)
-- def all_beyond(direction, corners, top): direction=0 corners=1 top=2 x=3 y=4
noncomputable def b1_all_beyond : SS :=
  sIf (tOf (x2 leD (x2 mulD (x2 addD (x2 mulD (x2 ixD (xV 0) (xC (.int 0))) (xV 3)) (x2 mulD (x2 ixD (xV 0) (xC (.int 1))) (xV 4))) (x2 ixD (xV 2) (xC (.int 1)))) (x2 ixD (xV 2) (xC (.int 0))))) (sRet (xC (.bl false))) (sN)
noncomputable def s_all_beyond : SS :=
  sSeq (sFor [1] (itL (xV 1)) (gT 2 (gsC (gN 3) (gsC (gN 4) (gsN)))) (b1_all_beyond))
  (sRet (xC (.bl true)))
noncomputable def f_all_beyond : List O → Option O := fnD 3 5 s_all_beyond

-- (not reached)
-- def apart(sides, corners): sides=0 corners=1 at=2 side=3 a=4 b=5 c=6 told=7
noncomputable def b1_apart : SS :=
  sIf (tOf (xCall f_all_beyond (xsC (xV 3) (xsC (xV 1) (xsC (xTup (xsC (x2 ixD (xV 3) (xC (.int 2))) (xsC (xC (.int 1)) (xsN)))) (xsN)))))) (sRet (xTup (xsC (xC (.str (PySem.Str.ofString "cannot"))) (xsC (xTup (xsC (x2 ixD (xV 3) (xC (.int 0))) (xsC (x2 ixD (xV 3) (xC (.int 1))) (xsN)))) (xsC (xLst (xsC (xTup (xsC (xV 2) (xsC (xC (.kt [1, 1])) (xsN)))) (xsN))) (xsN)))))) (sN)
noncomputable def b2_apart : SS :=
  sSeq (sSet [0, 4, 5] 7 (xCall f_reach (xsC (xV 0) (xsC (xTup (xsC (x1 negD (xV 4)) (xsC (x1 negD (xV 5)) (xsN)))) (xsN)))))
  (sIf (Dv.tAnd (tOf (x2 eqD (x2 ixD (xV 7) (xC (.int 0))) (xC (.str (PySem.Str.ofString "far"))))) (tOf (xCall f_all_beyond (xsC (xTup (xsC (x1 negD (xV 4)) (xsC (x1 negD (xV 5)) (xsN)))) (xsC (xV 1) (xsC (xTup (xsC (xCall f_along (xsC (xTup (xsC (x1 negD (xV 4)) (xsC (x1 negD (xV 5)) (xsN)))) (xsC (x2 ixD (xV 7) (xC (.int 1))) (xsN)))) (xsC (x2 ixD (x2 ixD (xV 7) (xC (.int 1))) (xC (.int 2))) (xsN)))) (xsN))))))) (sRet (xTup (xsC (xC (.str (PySem.Str.ofString "cannot"))) (xsC (xTup (xsC (x1 negD (xV 4)) (xsC (x1 negD (xV 5)) (xsN)))) (xsC (x2 ixD (xV 7) (xC (.int 2))) (xsN)))))) (sN))
noncomputable def s_apart : SS :=
  sSeq (sFor [0] (itEn (xV 0)) (gT 2 (gsC (gN 2) (gsC (gN 3) (gsN)))) (b1_apart))
  (sSeq (sFor [1] (itL (xCall f_bank_sides (xsC (xV 1) (xsN)))) (gT 3 (gsC (gN 4) (gsC (gN 5) (gsC (gN 6) (gsN))))) (b2_apart))
  (sRet (xC .non)))
noncomputable def f_apart : List O → Option O := fnD 2 8 s_apart

-- (not reached)
-- def far_out(sides, side, way): sides=0 side=1 way=2 x=3 y=4 w=5 step=6 turns=7
noncomputable def s_far_out : SS :=
  sSeq (sAsg [0] (xCall f_some_spot (xsC (xV 0) (xsN))) (gT 3 (gsC (gN 3) (gsC (gN 4) (gsC (gN 5) (gsN))))))
  (sSeq (sSet [1, 2] 6 (xCall f_along (xsC (xV 1) (xsC (xV 2) (xsN)))))
  (sSeq (sSet [1, 5, 1, 3, 4, 5, 6] 7 (xF maxD (xsC (xC (.int 0)) (xsC (x2 addD (x2 fdivD (x2 subD (x2 mulD (x2 ixD (xV 1) (xC (.int 2))) (xV 5)) (xCall f_along (xsC (xV 1) (xsC (xTup (xsC (xV 3) (xsC (xV 4) (xsN)))) (xsN))))) (x2 mulD (xV 5) (xV 6))) (xC (.int 1))) (xsN)))))
  (sRet (xCall f_spot (xsC (x2 addD (xV 3) (x2 mulD (x2 mulD (xV 7) (x2 ixD (xV 2) (xC (.int 0)))) (xV 5))) (xsC (x2 addD (xV 4) (x2 mulD (x2 mulD (xV 7) (x2 ixD (xV 2) (xC (.int 1)))) (xV 5))) (xsC (xV 5) (xsN))))))))
noncomputable def f_far_out : List O → Option O := fnD 3 8 s_far_out

-- (not reached)
-- def outside(sides, side, told): sides=0 side=1 told=2
noncomputable def s_outside : SS :=
  sSeq (sIf (tOf (x2 eqD (x2 ixD (xV 2) (xC (.int 0))) (xC (.str (PySem.Str.ofString "open"))))) (sRet (xCall f_far_out (xsC (xV 0) (xsC (xV 1) (xsC (x2 ixD (xV 2) (xC (.int 1))) (xsN)))))) (sN))
  (sSeq (sIf (tOf (x2 gtD (xCall f_along (xsC (xV 1) (xsC (x2 ixD (xV 2) (xC (.int 1))) (xsN)))) (x2 mulD (x2 ixD (xV 1) (xC (.int 2))) (x2 ixD (x2 ixD (xV 2) (xC (.int 1))) (xC (.int 2)))))) (sRet (x2 ixD (xV 2) (xC (.int 1)))) (sN))
  (sRet (xC .non)))
noncomputable def f_outside : List O → Option O := fnD 3 3 s_outside

-- (not reached)
-- def bank_word(sides, corners): sides=0 corners=1 found=2 rows=3 both=4 shown=5 side=6 told=7 place=8
noncomputable def b1_bank_word : SS :=
  sSeq (sSet [0, 6, 6] 7 (xCall f_reach (xsC (xV 0) (xsC (xTup (xsC (x2 ixD (xV 6) (xC (.int 0))) (xsC (x2 ixD (xV 6) (xC (.int 1))) (xsN)))) (xsN)))))
  (sSeq (sSet [0, 6, 7] 8 (xCall f_outside (xsC (xV 0) (xsC (xV 6) (xsC (xV 7) (xsN))))))
  (sSeq (sIf (tOf (x2 notN2 (xV 8) (xC .non))) (sRetM (xsC (xCl (xC (.str (PySem.Str.ofString "can")))) (xsC (get 4) (xsC (get 8) (xsN))))) (sN))
  (sApp [7] 5 (x2 ixD (xV 7) (xC (.int 2))))))
noncomputable def s_bank_word : SS :=
  sSeq (sSet [0] 2 (xCall f_clash (xsC (xV 0) (xsN))))
  (sSeq (sIf (tOf (x2 notN2 (xV 2) (xC .non))) (sRetM (xsC (xCl (xC (.str (PySem.Str.ofString "none")))) (xsC (get 2) (xsN)))) (sN))
  (sSeq (sSet [1] 3 (xCall f_bank_sides (xsC (xV 1) (xsN))))
  (sSeq (sSet [0, 3] 4 (xCall f_some_spot (xsC (x2 addD (xV 0) (xV 3)) (xsN))))
  (sSeq (sIf (tOf (x2 isN2 (xV 4) (xC .non))) (sRet (xCall f_apart (xsC (xV 0) (xsC (xV 1) (xsN))))) (sN))
  (sSeq (sSet [] 5 (xLst (xsN)))
  (sSeq (sFor [3] (itL (xV 3)) (gN 6) (b1_bank_word))
  (sRetM (xsC (xCl (xC (.str (PySem.Str.ofString "must")))) (xsC (get 5) (xsN))))))))))
noncomputable def f_bank_word : List O → Option O := fnD 2 9 s_bank_word

-- (not reached)
-- def on_bank(corners, place): corners=0 place=1
noncomputable def s_on_bank : SS :=
  sRet (xCall f_in_all (xsC (xCall f_bank_sides (xsC (xV 0) (xsN))) (xsC (xV 1) (xsN))))
noncomputable def f_on_bank : List O → Option O := fnD 2 2 s_on_bank

-- (not reached)
-- def rising(rows, many): rows=0 many=1 last=2 number=3 weight=4
noncomputable def b1_rising : SS :=
  sSeq (sIf (Dv.tOr (tOf (x2 leD (xV 3) (xV 2))) (tOf (x2 geD (xV 3) (xV 1)))) (sRet (xC (.bl false))) (sN))
  (sSet [3] 2 (xV 3))
noncomputable def s_rising : SS :=
  sSeq (sSet [] 2 (x1 negD (xC (.int 1))))
  (sSeq (sFor [0] (itL (xV 0)) (gT 2 (gsC (gN 3) (gsC (gN 4) (gsN)))) (b1_rising))
  (sRet (xC (.bl true))))
noncomputable def f_rising : List O → Option O := fnD 2 5 s_rising

-- (not reached)
-- def good_clash(sides, paper): sides=0 paper=1 total=2 number=3 weight=4 one=5 two=6
noncomputable def b1_good_clash : SS :=
  sSeq (sIf (tOf (x2 ltD (xV 4) (xC (.int 1)))) (sRet (xC (.bl false))) (sN))
  (sSet [2, 0, 3, 4] 2 (xLc [2, 0, 3, 4] [5, 6] (itZ (xV 2) (x2 ixD (xV 0) (xV 3))) (gT 2 (gsC (gN 5) (gsC (gN 6) (gsN)))) (tY) (x2 addD (xV 5) (x2 mulD (xV 4) (xV 6)))))
noncomputable def s_good_clash : SS :=
  sSeq (sIf (Dv.tOr (tOf (x2 ltD (xF lenD' (xsC (xV 1) (xsN))) (xC (.int 2)))) (Dv.tOr (tOf (x2 gtD (xF lenD' (xsC (xV 1) (xsN))) (xC (.int 3)))) (Dv.tNot (tOf (xCall f_rising (xsC (xV 1) (xsC (xF lenD' (xsC (xV 0) (xsN))) (xsN)))))))) (sRet (xC (.bl false))) (sN))
  (sSeq (sSet [] 2 (xLst (xsC (xC (.int 0)) (xsC (xC (.int 0)) (xsC (xC (.int 0)) (xsN))))))
  (sSeq (sFor [1] (itL (xV 1)) (gT 2 (gsC (gN 3) (gsC (gN 4) (gsN)))) (b1_good_clash))
  (sRet (xAnd (x2 eqD (xSl (xV 2) pN (pI (xC (.int 2)))) (xLst (xsC (xC (.int 0)) (xsC (xC (.int 0)) (xsN))))) (x2 ltD (x2 ixD (xV 2) (xC (.int 2))) (xC (.int 0)))))))
noncomputable def f_good_clash : List O → Option O := fnD 2 7 s_good_clash

-- (not reached)
-- def shown(sides, direction, weights): sides=0 direction=1 weights=2 total=3 number=4 weight=5 one=6 two=7
noncomputable def b1_shown : SS :=
  sSeq (sIf (Dv.tOr (tOf (x2 ltD (x2 ixD (xV 5) (xC (.int 0))) (xC (.int 1)))) (tOf (x2 ltD (x2 ixD (xV 5) (xC (.int 1))) (xC (.int 1))))) (sRet (xC .non)) (sN))
  (sSet [3, 0, 4, 5] 3 (xLc [3, 0, 4, 5] [6, 7] (itZ (xV 3) (x2 ixD (xV 0) (xV 4))) (gT 2 (gsC (gN 6) (gsC (gN 7) (gsN)))) (tY) (xCall f_plus (xsC (xV 6) (xsC (xCall f_times (xsC (xV 5) (xsC (xTup (xsC (xV 7) (xsC (xC (.int 1)) (xsN)))) (xsN)))) (xsN))))))
noncomputable def s_shown : SS :=
  sSeq (sIf (Dv.tOr (tOf (x2 gtD (xF lenD' (xsC (xV 2) (xsN))) (xC (.int 2)))) (Dv.tNot (tOf (xCall f_rising (xsC (xV 2) (xsC (xF lenD' (xsC (xV 0) (xsN))) (xsN))))))) (sRet (xC .non)) (sN))
  (sSeq (sSet [] 3 (xLst (xsC (xC (.kt [0, 1])) (xsC (xC (.kt [0, 1])) (xsC (xC (.kt [0, 1])) (xsN))))))
  (sSeq (sFor [2] (itL (xV 2)) (gT 2 (gsC (gN 4) (gsC (gN 5) (gsN)))) (b1_shown))
  (sSeq (sIf (tOf (x2 neD (xSl (xV 3) pN (pI (xC (.int 2)))) (xLst (xsC (xTup (xsC (x2 ixD (xV 1) (xC (.int 0))) (xsC (xC (.int 1)) (xsN)))) (xsC (xTup (xsC (x2 ixD (xV 1) (xC (.int 1))) (xsC (xC (.int 1)) (xsN)))) (xsN)))))) (sRet (xC .non)) (sN))
  (sRet (x2 ixD (xV 3) (xC (.int 2)))))))
noncomputable def f_shown : List O → Option O := fnD 3 8 s_shown

-- (not reached)
-- def in_water(sides, place): sides=0 place=1
noncomputable def s_in_water : SS :=
  sRet (xAnd (x2 geD (x2 ixD (xV 1) (xC (.int 2))) (xC (.int 1))) (xCall f_in_all (xsC (xV 0) (xsC (xV 1) (xsN)))))
noncomputable def f_in_water : List O → Option O := fnD 2 2 s_in_water

-- (not reached)
-- def good_far(sides, direction, place, weights): sides=0 direction=1 place=2 weights=3 top=4
noncomputable def s_good_far : SS :=
  sSeq (sSet [0, 1, 3] 4 (xCall f_shown (xsC (xV 0) (xsC (xV 1) (xsC (xV 3) (xsN))))))
  (sSeq (sIf (Dv.tOr (tOf (x2 isN2 (xV 4) (xC .non))) (Dv.tNot (tOf (xCall f_in_water (xsC (xV 0) (xsC (xV 2) (xsN))))))) (sRet (xC (.bl false))) (sN))
  (sRet (x2 eqD (x2 mulD (xCall f_along (xsC (xV 1) (xsC (xV 2) (xsN)))) (x2 ixD (xV 4) (xC (.int 1)))) (x2 mulD (x2 ixD (xV 4) (xC (.int 0))) (x2 ixD (xV 2) (xC (.int 2)))))))
noncomputable def f_good_far : List O → Option O := fnD 4 5 s_good_far

-- (not reached)
-- def good_reach(sides, direction, paper): sides=0 direction=1 paper=2
noncomputable def s_good_reach : SS :=
  sSeq (sIf (tOf (x2 eqD (x2 ixD (xV 2) (xC (.int 0))) (xC (.str (PySem.Str.ofString "none"))))) (sRet (xCall f_good_clash (xsC (xV 0) (xsC (x2 ixD (xV 2) (xC (.int 1))) (xsN))))) (sN))
  (sSeq (sIf (tOf (x2 eqD (x2 ixD (xV 2) (xC (.int 0))) (xC (.str (PySem.Str.ofString "open"))))) (sRet (xAnd (x2 gtD (xCall f_along (xsC (xV 1) (xsC (x2 ixD (xV 2) (xC (.int 1))) (xsN)))) (xC (.int 0))) (xAnd (xCall f_is_way (xsC (xV 0) (xsC (x2 ixD (xV 2) (xC (.int 1))) (xsN)))) (x2 notN2 (xCall f_some_spot (xsC (xV 0) (xsN))) (xC .non))))) (sN))
  (sRet (xCall f_good_far (xsC (xV 0) (xsC (xV 1) (xsC (x2 ixD (xV 2) (xC (.int 1))) (xsC (x2 ixD (xV 2) (xC (.int 2))) (xsN))))))))
noncomputable def f_good_reach : List O → Option O := fnD 3 3 s_good_reach

-- (not reached)
-- def good_apart(sides, corners, direction, weights): sides=0 corners=1 direction=2 weights=3 top=4 corner=5
noncomputable def s_good_apart : SS :=
  sSeq (sSet [0, 2, 3] 4 (xCall f_shown (xsC (xV 0) (xsC (xV 2) (xsC (xV 3) (xsN))))))
  (sSeq (sIf (Dv.tOr (tOf (x2 isN2 (xV 4) (xC .non))) (tOf (x2 eqD (xV 2) (xTup (xsC (xC (.int 0)) (xsC (xC (.int 0)) (xsN))))))) (sRet (xC (.bl false))) (sN))
  (sRet (xF allD (xsC (xLc [1, 4, 2] [5] (itL (xV 1)) (gN 5) (tY) (xCall f_below (xsC (xV 4) (xsC (xTup (xsC (xCall f_along (xsC (xV 2) (xsC (xV 5) (xsN)))) (xsC (xC (.int 1)) (xsN)))) (xsN))))) (xsN)))))
noncomputable def f_good_apart : List O → Option O := fnD 4 6 s_good_apart

-- (not reached)
-- def good_within(sides, corners, papers): sides=0 corners=1 papers=2 rows=3 side=4 weights=5 top=6
noncomputable def b1_good_within : SS :=
  sSeq (sSet [0, 4, 4, 5] 6 (xCall f_shown (xsC (xV 0) (xsC (xTup (xsC (x2 ixD (xV 4) (xC (.int 0))) (xsC (x2 ixD (xV 4) (xC (.int 1))) (xsN)))) (xsC (xV 5) (xsN))))))
  (sIf (Dv.tOr (tOf (x2 isN2 (xV 6) (xC .non))) (tOf (xCall f_below (xsC (xTup (xsC (x2 ixD (xV 4) (xC (.int 2))) (xsC (xC (.int 1)) (xsN)))) (xsC (xV 6) (xsN)))))) (sRet (xC (.bl false))) (sN))
noncomputable def s_good_within : SS :=
  sSeq (sSet [1] 3 (xCall f_bank_sides (xsC (xV 1) (xsN))))
  (sSeq (sIf (tOf (x2 neD (xF lenD' (xsC (xV 2) (xsN))) (xF lenD' (xsC (xV 3) (xsN))))) (sRet (xC (.bl false))) (sN))
  (sSeq (sFor [3, 2] (itZ (xV 3) (xV 2)) (gT 2 (gsC (gN 4) (gsC (gN 5) (gsN)))) (b1_good_within))
  (sRet (xC (.bl true)))))
noncomputable def f_good_within : List O → Option O := fnD 3 7 s_good_within

-- (not reached)
-- def good_bank(sides, corners, paper): sides=0 corners=1 paper=2
noncomputable def s_good_bank : SS :=
  sSeq (sIf (tOf (x2 eqD (x2 ixD (xV 2) (xC (.int 0))) (xC (.str (PySem.Str.ofString "none"))))) (sRet (xCall f_good_clash (xsC (xV 0) (xsC (x2 ixD (xV 2) (xC (.int 1))) (xsN))))) (sN))
  (sSeq (sIf (tOf (x2 eqD (x2 ixD (xV 2) (xC (.int 0))) (xC (.str (PySem.Str.ofString "cannot"))))) (sRet (xCall f_good_apart (xsC (xV 0) (xsC (xV 1) (xsC (x2 ixD (xV 2) (xC (.int 1))) (xsC (x2 ixD (xV 2) (xC (.int 2))) (xsN))))))) (sN))
  (sSeq (sIf (tOf (x2 eqD (x2 ixD (xV 2) (xC (.int 0))) (xC (.str (PySem.Str.ofString "must"))))) (sRet (xCall f_good_within (xsC (xV 0) (xsC (xV 1) (xsC (x2 ixD (xV 2) (xC (.int 1))) (xsN)))))) (sN))
  (sSeq (sIf (Dv.tOr (Dv.tNot (tOf (xCall f_in_water (xsC (xV 0) (xsC (x2 ixD (xV 2) (xC (.int 1))) (xsN)))))) (Dv.tNot (tOf (xCall f_in_water (xsC (xV 0) (xsC (x2 ixD (xV 2) (xC (.int 2))) (xsN))))))) (sRet (xC (.bl false))) (sN))
  (sRet (xAnd (xCall f_on_bank (xsC (xV 1) (xsC (x2 ixD (xV 2) (xC (.int 1))) (xsN)))) (xNot (xCall f_on_bank (xsC (xV 1) (xsC (x2 ixD (xV 2) (xC (.int 2))) (xsN))))))))))
noncomputable def f_good_bank : List O → Option O := fnD 3 3 s_good_bank

-- (not reached)
-- def good_trust(groups, paper): groups=0 paper=1
noncomputable def s_good_trust : SS :=
  sRet (xAnd (x2 geD (x2 ixD (x2 ixD (xV 1) (xC (.int 0))) (xC (.int 2))) (xC (.int 1))) (x2 eqD (xCall f_doubted (xsC (xV 0) (xsC (x2 ixD (xV 1) (xC (.int 0))) (xsN)))) (x2 ixD (xV 1) (xC (.int 1)))))
noncomputable def f_good_trust : List O → Option O := fnD 2 2 s_good_trust
end Sm

end
section
set_option Elab.async false
set_option linter.all false
set_option maxRecDepth 100000
namespace Sm
open Dv
theorem way_eq (a b w : Int) (hw : 1 ≤ w) (hw2 : w ≤ 1000000) : ∃ x y, f__law_way [.int a, .int b, .int w] = some (.tup [.int x, .int y]) ∧ (x ≠ 0 ∨ y ≠ 0) ∧ (-w ≤ x ∧ x ≤ w) ∧ (-w ≤ y ∧ y ≤ w) := by
  have hm : 0 < 2 * w + 1 := by omega
  haveI : Sz 1 w := sz1 (by omega) (by omega)
  have x0 := Int.emod_nonneg a (b := 2 * w + 1) (by omega)
  have x1 := Int.emod_lt_of_pos a hm
  have y0 := Int.emod_nonneg b (b := 2 * w + 1) (by omega)
  have y1 := Int.emod_lt_of_pos b hm
  obtain ⟨X, hX⟩ : ∃ X, a % (2 * w + 1) - w = X := ⟨_, rfl⟩
  obtain ⟨Y, hY⟩ : ∃ Y, b % (2 * w + 1) - w = Y := ⟨_, rfl⟩
  haveI : Sz 1 (a % 2) := sz1 (by omega) (by omega)
  by_cases h : X = 0 ∧ Y = 0
  · refine ⟨1 - 2 * (a % 2), Y, ?_, by omega, by omega, by omega⟩
    unfold f__law_way s__law_way
    refine fnD_of rfl rfl ?_
    refine Dv.seq_nx (by simp (config := {decide := true}) only [Dv.get, Dv.xV, Dv.xC, Dv.frz, Dv.frzs, Dv.flat, Dv.flats, Dv.clean, Dv.cleans, Dv.frzSlot, Dv.frz1, Dv.frzAt, Dv.put, Dv.addD, Dv.subD, Dv.mulD, Dv.fdivD, Dv.modD, Dv.negD, Dv.x2, Dv.x1, Dv.xsN, Dv.xsC, Dv.xTup, Dv.xLst, Dv.xCall, Dv.asB, Dv.tOf, Dv.tNot, Dv.tAnd, Dv.tOr, Dv.xB, Dv.xIf, Dv.cmpI, Dv.ltD, Dv.leD, Dv.gtD, Dv.geD, Dv.xAnd, Dv.xOr, Dv.xNot, Dv.sN, Dv.sSeq, Dv.sSet, Dv.sRet, Dv.sRetV, Dv.sIf, Dv.sBk, Dv.sCt, Dv.gN, Dv.gsN, Dv.gsC, Dv.gT, Dv.fnD, Dv.ixD, Dv.slD, Dv.pN, Dv.pI, Dv.xSl, Dv.lenD', Dv.intD, Dv.maxD, Dv.minD, Dv.allD, Dv.anyD, Dv.allB, Dv.listD, Dv.xF, Dv.isiD, Dv.eqD, Dv.neD, Dv.isND, Dv.notND, Dv.isN2, Dv.notN2, Dv.sApp, Dv.itL, Dv.itR1, Dv.itR2, Dv.rngL, Dv.zipL, Dv.zipO, Dv.itZ, Dv.enuL, Dv.enuO, Dv.itEn, Dv.wipeD, Dv.keepD, Dv.tY, Dv.sAsg, Dv.sPar, Dv.sPar3, Dv.sAugI, Dv.sDrop, Dv.at_20, Dv.at_21, Dv.at_30, Dv.at_31, Dv.at_32, Dv.at_40, Dv.at_41, Dv.at_42, Dv.at_43, Dv.at_10, Dv.frzs_ints, Dv.cleans_ints, Dv.le_sLine, Dv.sh_non, Dv.sh_bl, Dv.sh_int, Dv.sh_tup, Dv.sh_lst, Dv.eqo_int, Dv.eqo_bl, Dv.eqo_tup, Dv.eqo_lst, Dv.eqos_nil, Dv.eqos_cons, List.all_cons, List.all_nil, Dv.beq_tt, Dv.beq_ff, Dv.beq_tf, Dv.beq_ft, List.getElem?_cons_zero, List.getElem?_cons_succ, List.getElem?_nil, List.set_cons_zero, List.set_cons_succ, List.set_nil, Option.bind_some, Option.bind_none, Option.map_some, Option.map_none, if_true, if_false, ↓reduceIte, decide_true, decide_false, Bool.false_eq_true, Bool.true_and, Bool.and_true, Bool.false_and, Bool.and_false, Bool.not_true, Bool.not_false, Bool.true_or, Bool.or_true, Bool.false_or, Bool.or_false, List.cons_append, List.nil_append, List.length_cons, List.length_nil, List.map_cons, List.map_nil, List.replicate_succ, List.replicate_zero, Nat.reduceAdd, Nat.reduceSub, Nat.reduceLT, Nat.reduceEqDiff, Nat.reduceLeDiff, Int.reduceAdd, Int.reduceSub, Int.reduceMul, Int.reduceNeg, Int.reduceLT, Int.reduceLE, Int.reduceEq, Int.reduceMod, Int.reduceDiv, Int.reduceToNat, Nat.add_zero, Nat.zero_add, List.contains_cons, List.contains_nil, Nat.reduceBEq, beq_self_eq_true, reduceCtorEq, and_true, true_and, and_false, false_and, not_true_eq_false, not_false_eq_true, Dv.mulOk_sz, hm, hX] <;> rfl) ?_
    refine Dv.seq_nx (by simp (config := {decide := true}) only [Dv.get, Dv.xV, Dv.xC, Dv.frz, Dv.frzs, Dv.flat, Dv.flats, Dv.clean, Dv.cleans, Dv.frzSlot, Dv.frz1, Dv.frzAt, Dv.put, Dv.addD, Dv.subD, Dv.mulD, Dv.fdivD, Dv.modD, Dv.negD, Dv.x2, Dv.x1, Dv.xsN, Dv.xsC, Dv.xTup, Dv.xLst, Dv.xCall, Dv.asB, Dv.tOf, Dv.tNot, Dv.tAnd, Dv.tOr, Dv.xB, Dv.xIf, Dv.cmpI, Dv.ltD, Dv.leD, Dv.gtD, Dv.geD, Dv.xAnd, Dv.xOr, Dv.xNot, Dv.sN, Dv.sSeq, Dv.sSet, Dv.sRet, Dv.sRetV, Dv.sIf, Dv.sBk, Dv.sCt, Dv.gN, Dv.gsN, Dv.gsC, Dv.gT, Dv.fnD, Dv.ixD, Dv.slD, Dv.pN, Dv.pI, Dv.xSl, Dv.lenD', Dv.intD, Dv.maxD, Dv.minD, Dv.allD, Dv.anyD, Dv.allB, Dv.listD, Dv.xF, Dv.isiD, Dv.eqD, Dv.neD, Dv.isND, Dv.notND, Dv.isN2, Dv.notN2, Dv.sApp, Dv.itL, Dv.itR1, Dv.itR2, Dv.rngL, Dv.zipL, Dv.zipO, Dv.itZ, Dv.enuL, Dv.enuO, Dv.itEn, Dv.wipeD, Dv.keepD, Dv.tY, Dv.sAsg, Dv.sPar, Dv.sPar3, Dv.sAugI, Dv.sDrop, Dv.at_20, Dv.at_21, Dv.at_30, Dv.at_31, Dv.at_32, Dv.at_40, Dv.at_41, Dv.at_42, Dv.at_43, Dv.at_10, Dv.frzs_ints, Dv.cleans_ints, Dv.le_sLine, Dv.sh_non, Dv.sh_bl, Dv.sh_int, Dv.sh_tup, Dv.sh_lst, Dv.eqo_int, Dv.eqo_bl, Dv.eqo_tup, Dv.eqo_lst, Dv.eqos_nil, Dv.eqos_cons, List.all_cons, List.all_nil, Dv.beq_tt, Dv.beq_ff, Dv.beq_tf, Dv.beq_ft, List.getElem?_cons_zero, List.getElem?_cons_succ, List.getElem?_nil, List.set_cons_zero, List.set_cons_succ, List.set_nil, Option.bind_some, Option.bind_none, Option.map_some, Option.map_none, if_true, if_false, ↓reduceIte, decide_true, decide_false, Bool.false_eq_true, Bool.true_and, Bool.and_true, Bool.false_and, Bool.and_false, Bool.not_true, Bool.not_false, Bool.true_or, Bool.or_true, Bool.false_or, Bool.or_false, List.cons_append, List.nil_append, List.length_cons, List.length_nil, List.map_cons, List.map_nil, List.replicate_succ, List.replicate_zero, Nat.reduceAdd, Nat.reduceSub, Nat.reduceLT, Nat.reduceEqDiff, Nat.reduceLeDiff, Int.reduceAdd, Int.reduceSub, Int.reduceMul, Int.reduceNeg, Int.reduceLT, Int.reduceLE, Int.reduceEq, Int.reduceMod, Int.reduceDiv, Int.reduceToNat, Nat.add_zero, Nat.zero_add, List.contains_cons, List.contains_nil, Nat.reduceBEq, beq_self_eq_true, reduceCtorEq, and_true, true_and, and_false, false_and, not_true_eq_false, not_false_eq_true, Dv.mulOk_sz, hm, hY] <;> rfl) ?_
    refine Dv.seq_nx (by simp (config := {decide := true}) only [Dv.get, Dv.xV, Dv.xC, Dv.frz, Dv.frzs, Dv.flat, Dv.flats, Dv.clean, Dv.cleans, Dv.frzSlot, Dv.frz1, Dv.frzAt, Dv.put, Dv.addD, Dv.subD, Dv.mulD, Dv.fdivD, Dv.modD, Dv.negD, Dv.x2, Dv.x1, Dv.xsN, Dv.xsC, Dv.xTup, Dv.xLst, Dv.xCall, Dv.asB, Dv.tOf, Dv.tNot, Dv.tAnd, Dv.tOr, Dv.xB, Dv.xIf, Dv.cmpI, Dv.ltD, Dv.leD, Dv.gtD, Dv.geD, Dv.xAnd, Dv.xOr, Dv.xNot, Dv.sN, Dv.sSeq, Dv.sSet, Dv.sRet, Dv.sRetV, Dv.sIf, Dv.sBk, Dv.sCt, Dv.gN, Dv.gsN, Dv.gsC, Dv.gT, Dv.fnD, Dv.ixD, Dv.slD, Dv.pN, Dv.pI, Dv.xSl, Dv.lenD', Dv.intD, Dv.maxD, Dv.minD, Dv.allD, Dv.anyD, Dv.allB, Dv.listD, Dv.xF, Dv.isiD, Dv.eqD, Dv.neD, Dv.isND, Dv.notND, Dv.isN2, Dv.notN2, Dv.sApp, Dv.itL, Dv.itR1, Dv.itR2, Dv.rngL, Dv.zipL, Dv.zipO, Dv.itZ, Dv.enuL, Dv.enuO, Dv.itEn, Dv.wipeD, Dv.keepD, Dv.tY, Dv.sAsg, Dv.sPar, Dv.sPar3, Dv.sAugI, Dv.sDrop, Dv.at_20, Dv.at_21, Dv.at_30, Dv.at_31, Dv.at_32, Dv.at_40, Dv.at_41, Dv.at_42, Dv.at_43, Dv.at_10, Dv.frzs_ints, Dv.cleans_ints, Dv.le_sLine, Dv.sh_non, Dv.sh_bl, Dv.sh_int, Dv.sh_tup, Dv.sh_lst, Dv.eqo_int, Dv.eqo_bl, Dv.eqo_tup, Dv.eqo_lst, Dv.eqos_nil, Dv.eqos_cons, List.all_cons, List.all_nil, Dv.beq_tt, Dv.beq_ff, Dv.beq_tf, Dv.beq_ft, List.getElem?_cons_zero, List.getElem?_cons_succ, List.getElem?_nil, List.set_cons_zero, List.set_cons_succ, List.set_nil, Option.bind_some, Option.bind_none, Option.map_some, Option.map_none, if_true, if_false, ↓reduceIte, decide_true, decide_false, Bool.false_eq_true, Bool.true_and, Bool.and_true, Bool.false_and, Bool.and_false, Bool.not_true, Bool.not_false, Bool.true_or, Bool.or_true, Bool.false_or, Bool.or_false, List.cons_append, List.nil_append, List.length_cons, List.length_nil, List.map_cons, List.map_nil, List.replicate_succ, List.replicate_zero, Nat.reduceAdd, Nat.reduceSub, Nat.reduceLT, Nat.reduceEqDiff, Nat.reduceLeDiff, Int.reduceAdd, Int.reduceSub, Int.reduceMul, Int.reduceNeg, Int.reduceLT, Int.reduceLE, Int.reduceEq, Int.reduceMod, Int.reduceDiv, Int.reduceToNat, Nat.add_zero, Nat.zero_add, List.contains_cons, List.contains_nil, Nat.reduceBEq, beq_self_eq_true, reduceCtorEq, and_true, true_and, and_false, false_and, not_true_eq_false, not_false_eq_true, Dv.mulOk_sz, h.1, h.2] <;> rfl) ?_
    simp (config := {decide := true}) only [Dv.get, Dv.xV, Dv.xC, Dv.frz, Dv.frzs, Dv.flat, Dv.flats, Dv.clean, Dv.cleans, Dv.frzSlot, Dv.frz1, Dv.frzAt, Dv.put, Dv.addD, Dv.subD, Dv.mulD, Dv.fdivD, Dv.modD, Dv.negD, Dv.x2, Dv.x1, Dv.xsN, Dv.xsC, Dv.xTup, Dv.xLst, Dv.xCall, Dv.asB, Dv.tOf, Dv.tNot, Dv.tAnd, Dv.tOr, Dv.xB, Dv.xIf, Dv.cmpI, Dv.ltD, Dv.leD, Dv.gtD, Dv.geD, Dv.xAnd, Dv.xOr, Dv.xNot, Dv.sN, Dv.sSeq, Dv.sSet, Dv.sRet, Dv.sRetV, Dv.sIf, Dv.sBk, Dv.sCt, Dv.gN, Dv.gsN, Dv.gsC, Dv.gT, Dv.fnD, Dv.ixD, Dv.slD, Dv.pN, Dv.pI, Dv.xSl, Dv.lenD', Dv.intD, Dv.maxD, Dv.minD, Dv.allD, Dv.anyD, Dv.allB, Dv.listD, Dv.xF, Dv.isiD, Dv.eqD, Dv.neD, Dv.isND, Dv.notND, Dv.isN2, Dv.notN2, Dv.sApp, Dv.itL, Dv.itR1, Dv.itR2, Dv.rngL, Dv.zipL, Dv.zipO, Dv.itZ, Dv.enuL, Dv.enuO, Dv.itEn, Dv.wipeD, Dv.keepD, Dv.tY, Dv.sAsg, Dv.sPar, Dv.sPar3, Dv.sAugI, Dv.sDrop, Dv.at_20, Dv.at_21, Dv.at_30, Dv.at_31, Dv.at_32, Dv.at_40, Dv.at_41, Dv.at_42, Dv.at_43, Dv.at_10, Dv.frzs_ints, Dv.cleans_ints, Dv.le_sLine, Dv.sh_non, Dv.sh_bl, Dv.sh_int, Dv.sh_tup, Dv.sh_lst, Dv.eqo_int, Dv.eqo_bl, Dv.eqo_tup, Dv.eqo_lst, Dv.eqos_nil, Dv.eqos_cons, List.all_cons, List.all_nil, Dv.beq_tt, Dv.beq_ff, Dv.beq_tf, Dv.beq_ft, List.getElem?_cons_zero, List.getElem?_cons_succ, List.getElem?_nil, List.set_cons_zero, List.set_cons_succ, List.set_nil, Option.bind_some, Option.bind_none, Option.map_some, Option.map_none, if_true, if_false, ↓reduceIte, decide_true, decide_false, Bool.false_eq_true, Bool.true_and, Bool.and_true, Bool.false_and, Bool.and_false, Bool.not_true, Bool.not_false, Bool.true_or, Bool.or_true, Bool.false_or, Bool.or_false, List.cons_append, List.nil_append, List.length_cons, List.length_nil, List.map_cons, List.map_nil, List.replicate_succ, List.replicate_zero, Nat.reduceAdd, Nat.reduceSub, Nat.reduceLT, Nat.reduceEqDiff, Nat.reduceLeDiff, Int.reduceAdd, Int.reduceSub, Int.reduceMul, Int.reduceNeg, Int.reduceLT, Int.reduceLE, Int.reduceEq, Int.reduceMod, Int.reduceDiv, Int.reduceToNat, Nat.add_zero, Nat.zero_add, List.contains_cons, List.contains_nil, Nat.reduceBEq, beq_self_eq_true, reduceCtorEq, and_true, true_and, and_false, false_and, not_true_eq_false, not_false_eq_true, Dv.mulOk_sz, h.2]
  · refine ⟨X, Y, ?_, by omega, by omega, by omega⟩
    unfold f__law_way s__law_way
    refine fnD_of rfl rfl ?_
    refine Dv.seq_nx (by simp (config := {decide := true}) only [Dv.get, Dv.xV, Dv.xC, Dv.frz, Dv.frzs, Dv.flat, Dv.flats, Dv.clean, Dv.cleans, Dv.frzSlot, Dv.frz1, Dv.frzAt, Dv.put, Dv.addD, Dv.subD, Dv.mulD, Dv.fdivD, Dv.modD, Dv.negD, Dv.x2, Dv.x1, Dv.xsN, Dv.xsC, Dv.xTup, Dv.xLst, Dv.xCall, Dv.asB, Dv.tOf, Dv.tNot, Dv.tAnd, Dv.tOr, Dv.xB, Dv.xIf, Dv.cmpI, Dv.ltD, Dv.leD, Dv.gtD, Dv.geD, Dv.xAnd, Dv.xOr, Dv.xNot, Dv.sN, Dv.sSeq, Dv.sSet, Dv.sRet, Dv.sRetV, Dv.sIf, Dv.sBk, Dv.sCt, Dv.gN, Dv.gsN, Dv.gsC, Dv.gT, Dv.fnD, Dv.ixD, Dv.slD, Dv.pN, Dv.pI, Dv.xSl, Dv.lenD', Dv.intD, Dv.maxD, Dv.minD, Dv.allD, Dv.anyD, Dv.allB, Dv.listD, Dv.xF, Dv.isiD, Dv.eqD, Dv.neD, Dv.isND, Dv.notND, Dv.isN2, Dv.notN2, Dv.sApp, Dv.itL, Dv.itR1, Dv.itR2, Dv.rngL, Dv.zipL, Dv.zipO, Dv.itZ, Dv.enuL, Dv.enuO, Dv.itEn, Dv.wipeD, Dv.keepD, Dv.tY, Dv.sAsg, Dv.sPar, Dv.sPar3, Dv.sAugI, Dv.sDrop, Dv.at_20, Dv.at_21, Dv.at_30, Dv.at_31, Dv.at_32, Dv.at_40, Dv.at_41, Dv.at_42, Dv.at_43, Dv.at_10, Dv.frzs_ints, Dv.cleans_ints, Dv.le_sLine, Dv.sh_non, Dv.sh_bl, Dv.sh_int, Dv.sh_tup, Dv.sh_lst, Dv.eqo_int, Dv.eqo_bl, Dv.eqo_tup, Dv.eqo_lst, Dv.eqos_nil, Dv.eqos_cons, List.all_cons, List.all_nil, Dv.beq_tt, Dv.beq_ff, Dv.beq_tf, Dv.beq_ft, List.getElem?_cons_zero, List.getElem?_cons_succ, List.getElem?_nil, List.set_cons_zero, List.set_cons_succ, List.set_nil, Option.bind_some, Option.bind_none, Option.map_some, Option.map_none, if_true, if_false, ↓reduceIte, decide_true, decide_false, Bool.false_eq_true, Bool.true_and, Bool.and_true, Bool.false_and, Bool.and_false, Bool.not_true, Bool.not_false, Bool.true_or, Bool.or_true, Bool.false_or, Bool.or_false, List.cons_append, List.nil_append, List.length_cons, List.length_nil, List.map_cons, List.map_nil, List.replicate_succ, List.replicate_zero, Nat.reduceAdd, Nat.reduceSub, Nat.reduceLT, Nat.reduceEqDiff, Nat.reduceLeDiff, Int.reduceAdd, Int.reduceSub, Int.reduceMul, Int.reduceNeg, Int.reduceLT, Int.reduceLE, Int.reduceEq, Int.reduceMod, Int.reduceDiv, Int.reduceToNat, Nat.add_zero, Nat.zero_add, List.contains_cons, List.contains_nil, Nat.reduceBEq, beq_self_eq_true, reduceCtorEq, and_true, true_and, and_false, false_and, not_true_eq_false, not_false_eq_true, Dv.mulOk_sz, hm, hX] <;> rfl) ?_
    refine Dv.seq_nx (by simp (config := {decide := true}) only [Dv.get, Dv.xV, Dv.xC, Dv.frz, Dv.frzs, Dv.flat, Dv.flats, Dv.clean, Dv.cleans, Dv.frzSlot, Dv.frz1, Dv.frzAt, Dv.put, Dv.addD, Dv.subD, Dv.mulD, Dv.fdivD, Dv.modD, Dv.negD, Dv.x2, Dv.x1, Dv.xsN, Dv.xsC, Dv.xTup, Dv.xLst, Dv.xCall, Dv.asB, Dv.tOf, Dv.tNot, Dv.tAnd, Dv.tOr, Dv.xB, Dv.xIf, Dv.cmpI, Dv.ltD, Dv.leD, Dv.gtD, Dv.geD, Dv.xAnd, Dv.xOr, Dv.xNot, Dv.sN, Dv.sSeq, Dv.sSet, Dv.sRet, Dv.sRetV, Dv.sIf, Dv.sBk, Dv.sCt, Dv.gN, Dv.gsN, Dv.gsC, Dv.gT, Dv.fnD, Dv.ixD, Dv.slD, Dv.pN, Dv.pI, Dv.xSl, Dv.lenD', Dv.intD, Dv.maxD, Dv.minD, Dv.allD, Dv.anyD, Dv.allB, Dv.listD, Dv.xF, Dv.isiD, Dv.eqD, Dv.neD, Dv.isND, Dv.notND, Dv.isN2, Dv.notN2, Dv.sApp, Dv.itL, Dv.itR1, Dv.itR2, Dv.rngL, Dv.zipL, Dv.zipO, Dv.itZ, Dv.enuL, Dv.enuO, Dv.itEn, Dv.wipeD, Dv.keepD, Dv.tY, Dv.sAsg, Dv.sPar, Dv.sPar3, Dv.sAugI, Dv.sDrop, Dv.at_20, Dv.at_21, Dv.at_30, Dv.at_31, Dv.at_32, Dv.at_40, Dv.at_41, Dv.at_42, Dv.at_43, Dv.at_10, Dv.frzs_ints, Dv.cleans_ints, Dv.le_sLine, Dv.sh_non, Dv.sh_bl, Dv.sh_int, Dv.sh_tup, Dv.sh_lst, Dv.eqo_int, Dv.eqo_bl, Dv.eqo_tup, Dv.eqo_lst, Dv.eqos_nil, Dv.eqos_cons, List.all_cons, List.all_nil, Dv.beq_tt, Dv.beq_ff, Dv.beq_tf, Dv.beq_ft, List.getElem?_cons_zero, List.getElem?_cons_succ, List.getElem?_nil, List.set_cons_zero, List.set_cons_succ, List.set_nil, Option.bind_some, Option.bind_none, Option.map_some, Option.map_none, if_true, if_false, ↓reduceIte, decide_true, decide_false, Bool.false_eq_true, Bool.true_and, Bool.and_true, Bool.false_and, Bool.and_false, Bool.not_true, Bool.not_false, Bool.true_or, Bool.or_true, Bool.false_or, Bool.or_false, List.cons_append, List.nil_append, List.length_cons, List.length_nil, List.map_cons, List.map_nil, List.replicate_succ, List.replicate_zero, Nat.reduceAdd, Nat.reduceSub, Nat.reduceLT, Nat.reduceEqDiff, Nat.reduceLeDiff, Int.reduceAdd, Int.reduceSub, Int.reduceMul, Int.reduceNeg, Int.reduceLT, Int.reduceLE, Int.reduceEq, Int.reduceMod, Int.reduceDiv, Int.reduceToNat, Nat.add_zero, Nat.zero_add, List.contains_cons, List.contains_nil, Nat.reduceBEq, beq_self_eq_true, reduceCtorEq, and_true, true_and, and_false, false_and, not_true_eq_false, not_false_eq_true, Dv.mulOk_sz, hm, hY] <;> rfl) ?_
    refine seq_nx (τ' := [some (.int a), some (.int b), some (.int w), some (.int X), some (.int Y)]) ?_ ?_
    · by_cases hx : X = 0
      · have hy : ¬ Y = 0 := fun e => h ⟨hx, e⟩
        simp (config := {decide := true}) only [Dv.get, Dv.xV, Dv.xC, Dv.frz, Dv.frzs, Dv.flat, Dv.flats, Dv.clean, Dv.cleans, Dv.frzSlot, Dv.frz1, Dv.frzAt, Dv.put, Dv.addD, Dv.subD, Dv.mulD, Dv.fdivD, Dv.modD, Dv.negD, Dv.x2, Dv.x1, Dv.xsN, Dv.xsC, Dv.xTup, Dv.xLst, Dv.xCall, Dv.asB, Dv.tOf, Dv.tNot, Dv.tAnd, Dv.tOr, Dv.xB, Dv.xIf, Dv.cmpI, Dv.ltD, Dv.leD, Dv.gtD, Dv.geD, Dv.xAnd, Dv.xOr, Dv.xNot, Dv.sN, Dv.sSeq, Dv.sSet, Dv.sRet, Dv.sRetV, Dv.sIf, Dv.sBk, Dv.sCt, Dv.gN, Dv.gsN, Dv.gsC, Dv.gT, Dv.fnD, Dv.ixD, Dv.slD, Dv.pN, Dv.pI, Dv.xSl, Dv.lenD', Dv.intD, Dv.maxD, Dv.minD, Dv.allD, Dv.anyD, Dv.allB, Dv.listD, Dv.xF, Dv.isiD, Dv.eqD, Dv.neD, Dv.isND, Dv.notND, Dv.isN2, Dv.notN2, Dv.sApp, Dv.itL, Dv.itR1, Dv.itR2, Dv.rngL, Dv.zipL, Dv.zipO, Dv.itZ, Dv.enuL, Dv.enuO, Dv.itEn, Dv.wipeD, Dv.keepD, Dv.tY, Dv.sAsg, Dv.sPar, Dv.sPar3, Dv.sAugI, Dv.sDrop, Dv.at_20, Dv.at_21, Dv.at_30, Dv.at_31, Dv.at_32, Dv.at_40, Dv.at_41, Dv.at_42, Dv.at_43, Dv.at_10, Dv.frzs_ints, Dv.cleans_ints, Dv.le_sLine, Dv.sh_non, Dv.sh_bl, Dv.sh_int, Dv.sh_tup, Dv.sh_lst, Dv.eqo_int, Dv.eqo_bl, Dv.eqo_tup, Dv.eqo_lst, Dv.eqos_nil, Dv.eqos_cons, List.all_cons, List.all_nil, Dv.beq_tt, Dv.beq_ff, Dv.beq_tf, Dv.beq_ft, List.getElem?_cons_zero, List.getElem?_cons_succ, List.getElem?_nil, List.set_cons_zero, List.set_cons_succ, List.set_nil, Option.bind_some, Option.bind_none, Option.map_some, Option.map_none, if_true, if_false, ↓reduceIte, decide_true, decide_false, Bool.false_eq_true, Bool.true_and, Bool.and_true, Bool.false_and, Bool.and_false, Bool.not_true, Bool.not_false, Bool.true_or, Bool.or_true, Bool.false_or, Bool.or_false, List.cons_append, List.nil_append, List.length_cons, List.length_nil, List.map_cons, List.map_nil, List.replicate_succ, List.replicate_zero, Nat.reduceAdd, Nat.reduceSub, Nat.reduceLT, Nat.reduceEqDiff, Nat.reduceLeDiff, Int.reduceAdd, Int.reduceSub, Int.reduceMul, Int.reduceNeg, Int.reduceLT, Int.reduceLE, Int.reduceEq, Int.reduceMod, Int.reduceDiv, Int.reduceToNat, Nat.add_zero, Nat.zero_add, List.contains_cons, List.contains_nil, Nat.reduceBEq, beq_self_eq_true, reduceCtorEq, and_true, true_and, and_false, false_and, not_true_eq_false, not_false_eq_true, Dv.mulOk_sz, hx, hy]
      · simp (config := {decide := true}) only [Dv.get, Dv.xV, Dv.xC, Dv.frz, Dv.frzs, Dv.flat, Dv.flats, Dv.clean, Dv.cleans, Dv.frzSlot, Dv.frz1, Dv.frzAt, Dv.put, Dv.addD, Dv.subD, Dv.mulD, Dv.fdivD, Dv.modD, Dv.negD, Dv.x2, Dv.x1, Dv.xsN, Dv.xsC, Dv.xTup, Dv.xLst, Dv.xCall, Dv.asB, Dv.tOf, Dv.tNot, Dv.tAnd, Dv.tOr, Dv.xB, Dv.xIf, Dv.cmpI, Dv.ltD, Dv.leD, Dv.gtD, Dv.geD, Dv.xAnd, Dv.xOr, Dv.xNot, Dv.sN, Dv.sSeq, Dv.sSet, Dv.sRet, Dv.sRetV, Dv.sIf, Dv.sBk, Dv.sCt, Dv.gN, Dv.gsN, Dv.gsC, Dv.gT, Dv.fnD, Dv.ixD, Dv.slD, Dv.pN, Dv.pI, Dv.xSl, Dv.lenD', Dv.intD, Dv.maxD, Dv.minD, Dv.allD, Dv.anyD, Dv.allB, Dv.listD, Dv.xF, Dv.isiD, Dv.eqD, Dv.neD, Dv.isND, Dv.notND, Dv.isN2, Dv.notN2, Dv.sApp, Dv.itL, Dv.itR1, Dv.itR2, Dv.rngL, Dv.zipL, Dv.zipO, Dv.itZ, Dv.enuL, Dv.enuO, Dv.itEn, Dv.wipeD, Dv.keepD, Dv.tY, Dv.sAsg, Dv.sPar, Dv.sPar3, Dv.sAugI, Dv.sDrop, Dv.at_20, Dv.at_21, Dv.at_30, Dv.at_31, Dv.at_32, Dv.at_40, Dv.at_41, Dv.at_42, Dv.at_43, Dv.at_10, Dv.frzs_ints, Dv.cleans_ints, Dv.le_sLine, Dv.sh_non, Dv.sh_bl, Dv.sh_int, Dv.sh_tup, Dv.sh_lst, Dv.eqo_int, Dv.eqo_bl, Dv.eqo_tup, Dv.eqo_lst, Dv.eqos_nil, Dv.eqos_cons, List.all_cons, List.all_nil, Dv.beq_tt, Dv.beq_ff, Dv.beq_tf, Dv.beq_ft, List.getElem?_cons_zero, List.getElem?_cons_succ, List.getElem?_nil, List.set_cons_zero, List.set_cons_succ, List.set_nil, Option.bind_some, Option.bind_none, Option.map_some, Option.map_none, if_true, if_false, ↓reduceIte, decide_true, decide_false, Bool.false_eq_true, Bool.true_and, Bool.and_true, Bool.false_and, Bool.and_false, Bool.not_true, Bool.not_false, Bool.true_or, Bool.or_true, Bool.false_or, Bool.or_false, List.cons_append, List.nil_append, List.length_cons, List.length_nil, List.map_cons, List.map_nil, List.replicate_succ, List.replicate_zero, Nat.reduceAdd, Nat.reduceSub, Nat.reduceLT, Nat.reduceEqDiff, Nat.reduceLeDiff, Int.reduceAdd, Int.reduceSub, Int.reduceMul, Int.reduceNeg, Int.reduceLT, Int.reduceLE, Int.reduceEq, Int.reduceMod, Int.reduceDiv, Int.reduceToNat, Nat.add_zero, Nat.zero_add, List.contains_cons, List.contains_nil, Nat.reduceBEq, beq_self_eq_true, reduceCtorEq, and_true, true_and, and_false, false_and, not_true_eq_false, not_false_eq_true, Dv.mulOk_sz, hx]
    · simp (config := {decide := true}) only [Dv.get, Dv.xV, Dv.xC, Dv.frz, Dv.frzs, Dv.flat, Dv.flats, Dv.clean, Dv.cleans, Dv.frzSlot, Dv.frz1, Dv.frzAt, Dv.put, Dv.addD, Dv.subD, Dv.mulD, Dv.fdivD, Dv.modD, Dv.negD, Dv.x2, Dv.x1, Dv.xsN, Dv.xsC, Dv.xTup, Dv.xLst, Dv.xCall, Dv.asB, Dv.tOf, Dv.tNot, Dv.tAnd, Dv.tOr, Dv.xB, Dv.xIf, Dv.cmpI, Dv.ltD, Dv.leD, Dv.gtD, Dv.geD, Dv.xAnd, Dv.xOr, Dv.xNot, Dv.sN, Dv.sSeq, Dv.sSet, Dv.sRet, Dv.sRetV, Dv.sIf, Dv.sBk, Dv.sCt, Dv.gN, Dv.gsN, Dv.gsC, Dv.gT, Dv.fnD, Dv.ixD, Dv.slD, Dv.pN, Dv.pI, Dv.xSl, Dv.lenD', Dv.intD, Dv.maxD, Dv.minD, Dv.allD, Dv.anyD, Dv.allB, Dv.listD, Dv.xF, Dv.isiD, Dv.eqD, Dv.neD, Dv.isND, Dv.notND, Dv.isN2, Dv.notN2, Dv.sApp, Dv.itL, Dv.itR1, Dv.itR2, Dv.rngL, Dv.zipL, Dv.zipO, Dv.itZ, Dv.enuL, Dv.enuO, Dv.itEn, Dv.wipeD, Dv.keepD, Dv.tY, Dv.sAsg, Dv.sPar, Dv.sPar3, Dv.sAugI, Dv.sDrop, Dv.at_20, Dv.at_21, Dv.at_30, Dv.at_31, Dv.at_32, Dv.at_40, Dv.at_41, Dv.at_42, Dv.at_43, Dv.at_10, Dv.frzs_ints, Dv.cleans_ints, Dv.le_sLine, Dv.sh_non, Dv.sh_bl, Dv.sh_int, Dv.sh_tup, Dv.sh_lst, Dv.eqo_int, Dv.eqo_bl, Dv.eqo_tup, Dv.eqo_lst, Dv.eqos_nil, Dv.eqos_cons, List.all_cons, List.all_nil, Dv.beq_tt, Dv.beq_ff, Dv.beq_tf, Dv.beq_ft, List.getElem?_cons_zero, List.getElem?_cons_succ, List.getElem?_nil, List.set_cons_zero, List.set_cons_succ, List.set_nil, Option.bind_some, Option.bind_none, Option.map_some, Option.map_none, if_true, if_false, ↓reduceIte, decide_true, decide_false, Bool.false_eq_true, Bool.true_and, Bool.and_true, Bool.false_and, Bool.and_false, Bool.not_true, Bool.not_false, Bool.true_or, Bool.or_true, Bool.false_or, Bool.or_false, List.cons_append, List.nil_append, List.length_cons, List.length_nil, List.map_cons, List.map_nil, List.replicate_succ, List.replicate_zero, Nat.reduceAdd, Nat.reduceSub, Nat.reduceLT, Nat.reduceEqDiff, Nat.reduceLeDiff, Int.reduceAdd, Int.reduceSub, Int.reduceMul, Int.reduceNeg, Int.reduceLT, Int.reduceLE, Int.reduceEq, Int.reduceMod, Int.reduceDiv, Int.reduceToNat, Nat.add_zero, Nat.zero_add, List.contains_cons, List.contains_nil, Nat.reduceBEq, beq_self_eq_true, reduceCtorEq, and_true, true_and, and_false, false_and, not_true_eq_false, not_false_eq_true, Dv.mulOk_sz]
end Sm

end
section
set_option Elab.async false
set_option linter.all false
set_option maxRecDepth 100000
namespace Sm
open Dv

theorem turned_eq {p q x y : Int} (r z : List O) {a b c d : Nat} [Sz a p] [Sz b q] [Sz c x] [Sz d y] (h1 : mulOk p y = true) (h2 : mulOk q x = true) (hr : frzs r = r) (hz : frzs z = z) : f__law_turned [.tup (.int p :: .int q :: r), .tup (.int x :: .int y :: z)] = some (.int (p * y - q * x)) := by
  have t0 : ∀ (u v : O) (r : List O), at? (u :: v :: r) 0 = some u := fun _ _ _ => rfl
  have t1 : ∀ (u v : O) (r : List O), at? (u :: v :: r) 1 = some v := fun u v r => rfl
  unfold f__law_turned s__law_turned
  simp (config := {decide := true}) only [Dv.get, Dv.xV, Dv.xC, Dv.frz, Dv.frzs, Dv.flat, Dv.flats, Dv.clean, Dv.cleans, Dv.frzSlot, Dv.frz1, Dv.frzAt, Dv.put, Dv.addD, Dv.subD, Dv.mulD, Dv.fdivD, Dv.modD, Dv.negD, Dv.x2, Dv.x1, Dv.xsN, Dv.xsC, Dv.xTup, Dv.xLst, Dv.xCall, Dv.asB, Dv.tOf, Dv.tNot, Dv.tAnd, Dv.tOr, Dv.xB, Dv.xIf, Dv.cmpI, Dv.ltD, Dv.leD, Dv.gtD, Dv.geD, Dv.xAnd, Dv.xOr, Dv.xNot, Dv.sN, Dv.sSeq, Dv.sSet, Dv.sRet, Dv.sRetV, Dv.sIf, Dv.sBk, Dv.sCt, Dv.gN, Dv.gsN, Dv.gsC, Dv.gT, Dv.fnD, Dv.ixD, Dv.slD, Dv.pN, Dv.pI, Dv.xSl, Dv.lenD', Dv.intD, Dv.maxD, Dv.minD, Dv.allD, Dv.anyD, Dv.allB, Dv.listD, Dv.xF, Dv.isiD, Dv.eqD, Dv.neD, Dv.isND, Dv.notND, Dv.isN2, Dv.notN2, Dv.sApp, Dv.itL, Dv.itR1, Dv.itR2, Dv.rngL, Dv.zipL, Dv.zipO, Dv.itZ, Dv.enuL, Dv.enuO, Dv.itEn, Dv.wipeD, Dv.keepD, Dv.tY, Dv.sAsg, Dv.sPar, Dv.sPar3, Dv.sAugI, Dv.sDrop, Dv.at_20, Dv.at_21, Dv.at_30, Dv.at_31, Dv.at_32, Dv.at_40, Dv.at_41, Dv.at_42, Dv.at_43, Dv.at_10, Dv.frzs_ints, Dv.cleans_ints, Dv.le_sLine, Dv.sh_non, Dv.sh_bl, Dv.sh_int, Dv.sh_tup, Dv.sh_lst, Dv.eqo_int, Dv.eqo_bl, Dv.eqo_tup, Dv.eqo_lst, Dv.eqos_nil, Dv.eqos_cons, List.all_cons, List.all_nil, Dv.beq_tt, Dv.beq_ff, Dv.beq_tf, Dv.beq_ft, List.getElem?_cons_zero, List.getElem?_cons_succ, List.getElem?_nil, List.set_cons_zero, List.set_cons_succ, List.set_nil, Option.bind_some, Option.bind_none, Option.map_some, Option.map_none, if_true, if_false, ↓reduceIte, decide_true, decide_false, Bool.false_eq_true, Bool.true_and, Bool.and_true, Bool.false_and, Bool.and_false, Bool.not_true, Bool.not_false, Bool.true_or, Bool.or_true, Bool.false_or, Bool.or_false, List.cons_append, List.nil_append, List.length_cons, List.length_nil, List.map_cons, List.map_nil, List.replicate_succ, List.replicate_zero, Nat.reduceAdd, Nat.reduceSub, Nat.reduceLT, Nat.reduceEqDiff, Nat.reduceLeDiff, Int.reduceAdd, Int.reduceSub, Int.reduceMul, Int.reduceNeg, Int.reduceLT, Int.reduceLE, Int.reduceEq, Int.reduceMod, Int.reduceDiv, Int.reduceToNat, Nat.add_zero, Nat.zero_add, List.contains_cons, List.contains_nil, Nat.reduceBEq, beq_self_eq_true, reduceCtorEq, and_true, true_and, and_false, false_and, not_true_eq_false, not_false_eq_true, Dv.mulOk_sz, h1, h2, hr, hz, t0, t1]
end Sm

end
section
set_option Elab.async false
set_option linter.all false
set_option maxRecDepth 100000
/-! a pair of directions, the second to the left -/
namespace Sm
open Dv
theorem sqp {x y : Int} (h : x ≠ 0 ∨ y ≠ 0) : 0 < x * x + y * y := by
  have h1 : 0 ≤ x * x := by
    by_cases c : 0 ≤ x
    · exact Int.mul_nonneg c c
    · exact Int.mul_nonneg_of_nonpos_of_nonpos (by omega) (by omega)
  have h2 : 0 ≤ y * y := by
    by_cases c : 0 ≤ y
    · exact Int.mul_nonneg c c
    · exact Int.mul_nonneg_of_nonpos_of_nonpos (by omega) (by omega)
  have h3 : x ≠ 0 → x * x ≠ 0 := fun h => Int.mul_ne_zero h h
  have h4 : y ≠ 0 → y * y ≠ 0 := fun h => Int.mul_ne_zero h h
  rcases h with h | h
  · have := h3 h; omega
  · have := h4 h; omega
theorem left_pair_eq (o : Bool) (L : List Int) (hC : Cells 5 L) (w : Int) (w0 : 1 ≤ w) (w1 : w ≤ 1000000) : ∃ x y p q : Int, f__law_left_pair [.lst o (L.map O.int), .int w] = some (.tup [.tup [.int x, .int y], .tup [.int p, .int q]]) ∧
    (x ≠ 0 ∨ y ≠ 0) ∧ (p ≠ 0 ∨ q ≠ 0) ∧ (-w ≤ x ∧ x ≤ w) ∧ (-w ≤ y ∧ y ≤ w) ∧ (-w ≤ p ∧ p ≤ w) ∧ (-w ≤ q ∧ q ≤ w) ∧ 0 < x * q - y * p := by
  obtain ⟨a0, i0, _, l0, u0⟩ := hC.at 0 (by decide) (by omega)
  obtain ⟨a1, i1, _, l1, u1⟩ := hC.at 1 (by decide) (by omega)
  obtain ⟨a2, i2, _, l2, u2⟩ := hC.at 2 (by decide) (by omega)
  obtain ⟨a3, i3, _, l3, u3⟩ := hC.at 3 (by decide) (by omega)
  obtain ⟨a4, i4, _, l4, u4⟩ := hC.at 4 (by decide) (by omega)
  obtain ⟨x, y, e1, n1, bx, by_⟩ := way_eq a0 a1 w w0 w1
  obtain ⟨p, q, e2, n2, bp, bq⟩ := way_eq a2 a3 w w0 w1
  have d4 : divOk 4 = true := by decide
  obtain ⟨Ls, hLs⟩ : ∃ Ls, L.map O.int = Ls := ⟨_, rfl⟩
  have fL : frzs Ls = Ls := by rw [← hLs]; exact frzs_ints L
  rw [hLs] at i0 i1 i2 i3 i4 ⊢
  have tn : ∀ {x y p q : Int}, (-w ≤ x ∧ x ≤ w) → (-w ≤ y ∧ y ≤ w) → (-w ≤ p ∧ p ≤ w) → (-w ≤ q ∧ q ≤ w) → f__law_turned [.tup [.int x, .int y], .tup [.int p, .int q]] = some (.int (x * q - y * p)) := fun {x y p q} h1 h2 h3 h4 => by
    haveI : Sz 1 x := sz1 (by omega) (by omega)
    haveI : Sz 1 y := sz1 (by omega) (by omega)
    haveI : Sz 1 p := sz1 (by omega) (by omega)
    haveI : Sz 1 q := sz1 (by omega) (by omega)
    exact turned_eq [] [] (mulOk_sz (a := 1) (b := 1) rfl) (mulOk_sz (a := 1) (b := 1) rfl) rfl rfl
  have mid : ∃ p' q' : Int, (p' ≠ 0 ∨ q' ≠ 0) ∧ (-w ≤ p' ∧ p' ≤ w) ∧ (-w ≤ q' ∧ q' ≤ w) ∧ sIf (tOf (x2 eqD (x2 modD (x2 ixD (xV 0) (xC (.int 4))) (xC (.int 4))) (xC (.int 1)))) (sSet [2, 2] 3 (xTup (xsC (x1 negD (x2 ixD (xV 2) (xC (.int 1)))) (xsC (x2 ixD (xV 2) (xC (.int 0))) (xsN))))) (sN)
      [some (.lst false Ls), some (.int w), some (.tup [.int x, .int y]), some (.tup [.int p, .int q])] = some (.nx [some (.lst false Ls), some (.int w), some (.tup [.int x, .int y]), some (.tup [.int p', .int q'])]) := by
    by_cases h : a4 % 4 = 1
    · exact ⟨-y, x, by omega, by omega, by omega, by simp (config := {decide := true}) only [Dv.get, Dv.xV, Dv.xC, Dv.frz, Dv.frzs, Dv.flat, Dv.flats, Dv.clean, Dv.cleans, Dv.frzSlot, Dv.frz1, Dv.frzAt, Dv.put, Dv.addD, Dv.subD, Dv.mulD, Dv.fdivD, Dv.modD, Dv.negD, Dv.x2, Dv.x1, Dv.xsN, Dv.xsC, Dv.xTup, Dv.xLst, Dv.xCall, Dv.asB, Dv.tOf, Dv.tNot, Dv.tAnd, Dv.tOr, Dv.xB, Dv.xIf, Dv.cmpI, Dv.ltD, Dv.leD, Dv.gtD, Dv.geD, Dv.xAnd, Dv.xOr, Dv.xNot, Dv.sN, Dv.sSeq, Dv.sSet, Dv.sRet, Dv.sRetV, Dv.sIf, Dv.sBk, Dv.sCt, Dv.gN, Dv.gsN, Dv.gsC, Dv.gT, Dv.fnD, Dv.ixD, Dv.slD, Dv.pN, Dv.pI, Dv.xSl, Dv.lenD', Dv.intD, Dv.maxD, Dv.minD, Dv.allD, Dv.anyD, Dv.allB, Dv.listD, Dv.xF, Dv.isiD, Dv.eqD, Dv.neD, Dv.isND, Dv.notND, Dv.isN2, Dv.notN2, Dv.sApp, Dv.itL, Dv.itR1, Dv.itR2, Dv.rngL, Dv.zipL, Dv.zipO, Dv.itZ, Dv.enuL, Dv.enuO, Dv.itEn, Dv.wipeD, Dv.keepD, Dv.tY, Dv.sAsg, Dv.sPar, Dv.sPar3, Dv.sAugI, Dv.sDrop, Dv.at_20, Dv.at_21, Dv.at_30, Dv.at_31, Dv.at_32, Dv.at_40, Dv.at_41, Dv.at_42, Dv.at_43, Dv.at_10, Dv.frzs_ints, Dv.cleans_ints, Dv.le_sLine, Dv.sh_non, Dv.sh_bl, Dv.sh_int, Dv.sh_tup, Dv.sh_lst, Dv.eqo_int, Dv.eqo_bl, Dv.eqo_tup, Dv.eqo_lst, Dv.eqos_nil, Dv.eqos_cons, List.all_cons, List.all_nil, Dv.beq_tt, Dv.beq_ff, Dv.beq_tf, Dv.beq_ft, List.getElem?_cons_zero, List.getElem?_cons_succ, List.getElem?_nil, List.set_cons_zero, List.set_cons_succ, List.set_nil, Option.bind_some, Option.bind_none, Option.map_some, Option.map_none, if_true, if_false, ↓reduceIte, decide_true, decide_false, Bool.false_eq_true, Bool.true_and, Bool.and_true, Bool.false_and, Bool.and_false, Bool.not_true, Bool.not_false, Bool.true_or, Bool.or_true, Bool.false_or, Bool.or_false, List.cons_append, List.nil_append, List.length_cons, List.length_nil, List.map_cons, List.map_nil, List.replicate_succ, List.replicate_zero, Nat.reduceAdd, Nat.reduceSub, Nat.reduceLT, Nat.reduceEqDiff, Nat.reduceLeDiff, Int.reduceAdd, Int.reduceSub, Int.reduceMul, Int.reduceNeg, Int.reduceLT, Int.reduceLE, Int.reduceEq, Int.reduceMod, Int.reduceDiv, Int.reduceToNat, Nat.add_zero, Nat.zero_add, List.contains_cons, List.contains_nil, Nat.reduceBEq, beq_self_eq_true, reduceCtorEq, and_true, true_and, and_false, false_and, not_true_eq_false, not_false_eq_true, Dv.mulOk_sz, fL, i4, d4, h] <;> rfl⟩
    · exact ⟨p, q, n2, bp, bq, by simp (config := {decide := true}) only [Dv.get, Dv.xV, Dv.xC, Dv.frz, Dv.frzs, Dv.flat, Dv.flats, Dv.clean, Dv.cleans, Dv.frzSlot, Dv.frz1, Dv.frzAt, Dv.put, Dv.addD, Dv.subD, Dv.mulD, Dv.fdivD, Dv.modD, Dv.negD, Dv.x2, Dv.x1, Dv.xsN, Dv.xsC, Dv.xTup, Dv.xLst, Dv.xCall, Dv.asB, Dv.tOf, Dv.tNot, Dv.tAnd, Dv.tOr, Dv.xB, Dv.xIf, Dv.cmpI, Dv.ltD, Dv.leD, Dv.gtD, Dv.geD, Dv.xAnd, Dv.xOr, Dv.xNot, Dv.sN, Dv.sSeq, Dv.sSet, Dv.sRet, Dv.sRetV, Dv.sIf, Dv.sBk, Dv.sCt, Dv.gN, Dv.gsN, Dv.gsC, Dv.gT, Dv.fnD, Dv.ixD, Dv.slD, Dv.pN, Dv.pI, Dv.xSl, Dv.lenD', Dv.intD, Dv.maxD, Dv.minD, Dv.allD, Dv.anyD, Dv.allB, Dv.listD, Dv.xF, Dv.isiD, Dv.eqD, Dv.neD, Dv.isND, Dv.notND, Dv.isN2, Dv.notN2, Dv.sApp, Dv.itL, Dv.itR1, Dv.itR2, Dv.rngL, Dv.zipL, Dv.zipO, Dv.itZ, Dv.enuL, Dv.enuO, Dv.itEn, Dv.wipeD, Dv.keepD, Dv.tY, Dv.sAsg, Dv.sPar, Dv.sPar3, Dv.sAugI, Dv.sDrop, Dv.at_20, Dv.at_21, Dv.at_30, Dv.at_31, Dv.at_32, Dv.at_40, Dv.at_41, Dv.at_42, Dv.at_43, Dv.at_10, Dv.frzs_ints, Dv.cleans_ints, Dv.le_sLine, Dv.sh_non, Dv.sh_bl, Dv.sh_int, Dv.sh_tup, Dv.sh_lst, Dv.eqo_int, Dv.eqo_bl, Dv.eqo_tup, Dv.eqo_lst, Dv.eqos_nil, Dv.eqos_cons, List.all_cons, List.all_nil, Dv.beq_tt, Dv.beq_ff, Dv.beq_tf, Dv.beq_ft, List.getElem?_cons_zero, List.getElem?_cons_succ, List.getElem?_nil, List.set_cons_zero, List.set_cons_succ, List.set_nil, Option.bind_some, Option.bind_none, Option.map_some, Option.map_none, if_true, if_false, ↓reduceIte, decide_true, decide_false, Bool.false_eq_true, Bool.true_and, Bool.and_true, Bool.false_and, Bool.and_false, Bool.not_true, Bool.not_false, Bool.true_or, Bool.or_true, Bool.false_or, Bool.or_false, List.cons_append, List.nil_append, List.length_cons, List.length_nil, List.map_cons, List.map_nil, List.replicate_succ, List.replicate_zero, Nat.reduceAdd, Nat.reduceSub, Nat.reduceLT, Nat.reduceEqDiff, Nat.reduceLeDiff, Int.reduceAdd, Int.reduceSub, Int.reduceMul, Int.reduceNeg, Int.reduceLT, Int.reduceLE, Int.reduceEq, Int.reduceMod, Int.reduceDiv, Int.reduceToNat, Nat.add_zero, Nat.zero_add, List.contains_cons, List.contains_nil, Nat.reduceBEq, beq_self_eq_true, reduceCtorEq, and_true, true_and, and_false, false_and, not_true_eq_false, not_false_eq_true, Dv.mulOk_sz, fL, i4, d4, h] <;> rfl⟩
  obtain ⟨p', q', n2', bp', bq', em⟩ := mid
  have hd : ∀ (r : O), ((sSeq (sIf (tOf (x2 ltD (xCall f__law_turned (xsC (xV 2) (xsC (xV 3) (xsN)))) (xC (.int 0)))) (sPar [3, 2] 2 3 (xsC (xV 3) (xsC (xV 2) (xsN)))) (sN))
      (sSeq (sIf (tOf (x2 eqD (xCall f__law_turned (xsC (xV 2) (xsC (xV 3) (xsN)))) (xC (.int 0)))) (sSet [2, 2] 3 (xTup (xsC (x1 negD (x2 ixD (xV 2) (xC (.int 1)))) (xsC (x2 ixD (xV 2) (xC (.int 0))) (xsN))))) (sN))
      (sRet (xTup (xsC (xV 2) (xsC (xV 3) (xsN))))))) [some (.lst false Ls), some (.int w), some (.tup [.int x, .int y]), some (.tup [.int p', .int q'])]) = some (.rt r) → f__law_left_pair [.lst o Ls, .int w] = some r := by
    intro r h
    have st : s__law_left_pair [some (.lst false Ls), some (.int w), none, none] = (sSeq (sIf (tOf (x2 ltD (xCall f__law_turned (xsC (xV 2) (xsC (xV 3) (xsN)))) (xC (.int 0)))) (sPar [3, 2] 2 3 (xsC (xV 3) (xsC (xV 2) (xsN)))) (sN))
        (sSeq (sIf (tOf (x2 eqD (xCall f__law_turned (xsC (xV 2) (xsC (xV 3) (xsN)))) (xC (.int 0)))) (sSet [2, 2] 3 (xTup (xsC (x1 negD (x2 ixD (xV 2) (xC (.int 1)))) (xsC (x2 ixD (xV 2) (xC (.int 0))) (xsN))))) (sN))
        (sRet (xTup (xsC (xV 2) (xsC (xV 3) (xsN))))))) [some (.lst false Ls), some (.int w), some (.tup [.int x, .int y]), some (.tup [.int p', .int q'])] := by
      unfold s__law_left_pair
      refine seq_nx (τ' := [some (.lst false Ls), some (.int w), some (.tup [.int x, .int y]), none]) (by simp (config := {decide := true}) only [Dv.get, Dv.xV, Dv.xC, Dv.frz, Dv.frzs, Dv.flat, Dv.flats, Dv.clean, Dv.cleans, Dv.frzSlot, Dv.frz1, Dv.frzAt, Dv.put, Dv.addD, Dv.subD, Dv.mulD, Dv.fdivD, Dv.modD, Dv.negD, Dv.x2, Dv.x1, Dv.xsN, Dv.xsC, Dv.xTup, Dv.xLst, Dv.xCall, Dv.asB, Dv.tOf, Dv.tNot, Dv.tAnd, Dv.tOr, Dv.xB, Dv.xIf, Dv.cmpI, Dv.ltD, Dv.leD, Dv.gtD, Dv.geD, Dv.xAnd, Dv.xOr, Dv.xNot, Dv.sN, Dv.sSeq, Dv.sSet, Dv.sRet, Dv.sRetV, Dv.sIf, Dv.sBk, Dv.sCt, Dv.gN, Dv.gsN, Dv.gsC, Dv.gT, Dv.fnD, Dv.ixD, Dv.slD, Dv.pN, Dv.pI, Dv.xSl, Dv.lenD', Dv.intD, Dv.maxD, Dv.minD, Dv.allD, Dv.anyD, Dv.allB, Dv.listD, Dv.xF, Dv.isiD, Dv.eqD, Dv.neD, Dv.isND, Dv.notND, Dv.isN2, Dv.notN2, Dv.sApp, Dv.itL, Dv.itR1, Dv.itR2, Dv.rngL, Dv.zipL, Dv.zipO, Dv.itZ, Dv.enuL, Dv.enuO, Dv.itEn, Dv.wipeD, Dv.keepD, Dv.tY, Dv.sAsg, Dv.sPar, Dv.sPar3, Dv.sAugI, Dv.sDrop, Dv.at_20, Dv.at_21, Dv.at_30, Dv.at_31, Dv.at_32, Dv.at_40, Dv.at_41, Dv.at_42, Dv.at_43, Dv.at_10, Dv.frzs_ints, Dv.cleans_ints, Dv.le_sLine, Dv.sh_non, Dv.sh_bl, Dv.sh_int, Dv.sh_tup, Dv.sh_lst, Dv.eqo_int, Dv.eqo_bl, Dv.eqo_tup, Dv.eqo_lst, Dv.eqos_nil, Dv.eqos_cons, List.all_cons, List.all_nil, Dv.beq_tt, Dv.beq_ff, Dv.beq_tf, Dv.beq_ft, List.getElem?_cons_zero, List.getElem?_cons_succ, List.getElem?_nil, List.set_cons_zero, List.set_cons_succ, List.set_nil, Option.bind_some, Option.bind_none, Option.map_some, Option.map_none, if_true, if_false, ↓reduceIte, decide_true, decide_false, Bool.false_eq_true, Bool.true_and, Bool.and_true, Bool.false_and, Bool.and_false, Bool.not_true, Bool.not_false, Bool.true_or, Bool.or_true, Bool.false_or, Bool.or_false, List.cons_append, List.nil_append, List.length_cons, List.length_nil, List.map_cons, List.map_nil, List.replicate_succ, List.replicate_zero, Nat.reduceAdd, Nat.reduceSub, Nat.reduceLT, Nat.reduceEqDiff, Nat.reduceLeDiff, Int.reduceAdd, Int.reduceSub, Int.reduceMul, Int.reduceNeg, Int.reduceLT, Int.reduceLE, Int.reduceEq, Int.reduceMod, Int.reduceDiv, Int.reduceToNat, Nat.add_zero, Nat.zero_add, List.contains_cons, List.contains_nil, Nat.reduceBEq, beq_self_eq_true, reduceCtorEq, and_true, true_and, and_false, false_and, not_true_eq_false, not_false_eq_true, Dv.mulOk_sz, fL, i0, i1, e1]) ?_
      refine seq_nx (τ' := [some (.lst false Ls), some (.int w), some (.tup [.int x, .int y]), some (.tup [.int p, .int q])]) (by simp (config := {decide := true}) only [Dv.get, Dv.xV, Dv.xC, Dv.frz, Dv.frzs, Dv.flat, Dv.flats, Dv.clean, Dv.cleans, Dv.frzSlot, Dv.frz1, Dv.frzAt, Dv.put, Dv.addD, Dv.subD, Dv.mulD, Dv.fdivD, Dv.modD, Dv.negD, Dv.x2, Dv.x1, Dv.xsN, Dv.xsC, Dv.xTup, Dv.xLst, Dv.xCall, Dv.asB, Dv.tOf, Dv.tNot, Dv.tAnd, Dv.tOr, Dv.xB, Dv.xIf, Dv.cmpI, Dv.ltD, Dv.leD, Dv.gtD, Dv.geD, Dv.xAnd, Dv.xOr, Dv.xNot, Dv.sN, Dv.sSeq, Dv.sSet, Dv.sRet, Dv.sRetV, Dv.sIf, Dv.sBk, Dv.sCt, Dv.gN, Dv.gsN, Dv.gsC, Dv.gT, Dv.fnD, Dv.ixD, Dv.slD, Dv.pN, Dv.pI, Dv.xSl, Dv.lenD', Dv.intD, Dv.maxD, Dv.minD, Dv.allD, Dv.anyD, Dv.allB, Dv.listD, Dv.xF, Dv.isiD, Dv.eqD, Dv.neD, Dv.isND, Dv.notND, Dv.isN2, Dv.notN2, Dv.sApp, Dv.itL, Dv.itR1, Dv.itR2, Dv.rngL, Dv.zipL, Dv.zipO, Dv.itZ, Dv.enuL, Dv.enuO, Dv.itEn, Dv.wipeD, Dv.keepD, Dv.tY, Dv.sAsg, Dv.sPar, Dv.sPar3, Dv.sAugI, Dv.sDrop, Dv.at_20, Dv.at_21, Dv.at_30, Dv.at_31, Dv.at_32, Dv.at_40, Dv.at_41, Dv.at_42, Dv.at_43, Dv.at_10, Dv.frzs_ints, Dv.cleans_ints, Dv.le_sLine, Dv.sh_non, Dv.sh_bl, Dv.sh_int, Dv.sh_tup, Dv.sh_lst, Dv.eqo_int, Dv.eqo_bl, Dv.eqo_tup, Dv.eqo_lst, Dv.eqos_nil, Dv.eqos_cons, List.all_cons, List.all_nil, Dv.beq_tt, Dv.beq_ff, Dv.beq_tf, Dv.beq_ft, List.getElem?_cons_zero, List.getElem?_cons_succ, List.getElem?_nil, List.set_cons_zero, List.set_cons_succ, List.set_nil, Option.bind_some, Option.bind_none, Option.map_some, Option.map_none, if_true, if_false, ↓reduceIte, decide_true, decide_false, Bool.false_eq_true, Bool.true_and, Bool.and_true, Bool.false_and, Bool.and_false, Bool.not_true, Bool.not_false, Bool.true_or, Bool.or_true, Bool.false_or, Bool.or_false, List.cons_append, List.nil_append, List.length_cons, List.length_nil, List.map_cons, List.map_nil, List.replicate_succ, List.replicate_zero, Nat.reduceAdd, Nat.reduceSub, Nat.reduceLT, Nat.reduceEqDiff, Nat.reduceLeDiff, Int.reduceAdd, Int.reduceSub, Int.reduceMul, Int.reduceNeg, Int.reduceLT, Int.reduceLE, Int.reduceEq, Int.reduceMod, Int.reduceDiv, Int.reduceToNat, Nat.add_zero, Nat.zero_add, List.contains_cons, List.contains_nil, Nat.reduceBEq, beq_self_eq_true, reduceCtorEq, and_true, true_and, and_false, false_and, not_true_eq_false, not_false_eq_true, Dv.mulOk_sz, fL, i2, i3, e2]) ?_
      exact seq_nx em rfl
    unfold f__law_left_pair
    exact fnD_of (τ := [some (.lst false Ls), some (.int w), none, none]) rfl (by show [some (O.lst false (frzs Ls)), _, _, _] = _; rw [fL]; rfl) (st.trans h)
  have t1 := tn bx by_ bp' bq'
  by_cases c : x * q' - y * p' < 0
  · have t2 := tn bp' bq' bx by_
    have c2 : (p' * y - q' * x = 0) = False := eq_false (by
      have e1 : p' * y = y * p' := Int.mul_comm ..
      have e2 : q' * x = x * q' := Int.mul_comm ..
      omega)
    refine ⟨p', q', x, y, hd _ ?_, n2', n1, bp', bq', bx, by_, by
      have e1 : p' * y = y * p' := Int.mul_comm ..
      have e2 : q' * x = x * q' := Int.mul_comm ..
      omega⟩
    simp (config := {decide := true}) only [Dv.get, Dv.xV, Dv.xC, Dv.frz, Dv.frzs, Dv.flat, Dv.flats, Dv.clean, Dv.cleans, Dv.frzSlot, Dv.frz1, Dv.frzAt, Dv.put, Dv.addD, Dv.subD, Dv.mulD, Dv.fdivD, Dv.modD, Dv.negD, Dv.x2, Dv.x1, Dv.xsN, Dv.xsC, Dv.xTup, Dv.xLst, Dv.xCall, Dv.asB, Dv.tOf, Dv.tNot, Dv.tAnd, Dv.tOr, Dv.xB, Dv.xIf, Dv.cmpI, Dv.ltD, Dv.leD, Dv.gtD, Dv.geD, Dv.xAnd, Dv.xOr, Dv.xNot, Dv.sN, Dv.sSeq, Dv.sSet, Dv.sRet, Dv.sRetV, Dv.sIf, Dv.sBk, Dv.sCt, Dv.gN, Dv.gsN, Dv.gsC, Dv.gT, Dv.fnD, Dv.ixD, Dv.slD, Dv.pN, Dv.pI, Dv.xSl, Dv.lenD', Dv.intD, Dv.maxD, Dv.minD, Dv.allD, Dv.anyD, Dv.allB, Dv.listD, Dv.xF, Dv.isiD, Dv.eqD, Dv.neD, Dv.isND, Dv.notND, Dv.isN2, Dv.notN2, Dv.sApp, Dv.itL, Dv.itR1, Dv.itR2, Dv.rngL, Dv.zipL, Dv.zipO, Dv.itZ, Dv.enuL, Dv.enuO, Dv.itEn, Dv.wipeD, Dv.keepD, Dv.tY, Dv.sAsg, Dv.sPar, Dv.sPar3, Dv.sAugI, Dv.sDrop, Dv.at_20, Dv.at_21, Dv.at_30, Dv.at_31, Dv.at_32, Dv.at_40, Dv.at_41, Dv.at_42, Dv.at_43, Dv.at_10, Dv.frzs_ints, Dv.cleans_ints, Dv.le_sLine, Dv.sh_non, Dv.sh_bl, Dv.sh_int, Dv.sh_tup, Dv.sh_lst, Dv.eqo_int, Dv.eqo_bl, Dv.eqo_tup, Dv.eqo_lst, Dv.eqos_nil, Dv.eqos_cons, List.all_cons, List.all_nil, Dv.beq_tt, Dv.beq_ff, Dv.beq_tf, Dv.beq_ft, List.getElem?_cons_zero, List.getElem?_cons_succ, List.getElem?_nil, List.set_cons_zero, List.set_cons_succ, List.set_nil, Option.bind_some, Option.bind_none, Option.map_some, Option.map_none, if_true, if_false, ↓reduceIte, decide_true, decide_false, Bool.false_eq_true, Bool.true_and, Bool.and_true, Bool.false_and, Bool.and_false, Bool.not_true, Bool.not_false, Bool.true_or, Bool.or_true, Bool.false_or, Bool.or_false, List.cons_append, List.nil_append, List.length_cons, List.length_nil, List.map_cons, List.map_nil, List.replicate_succ, List.replicate_zero, Nat.reduceAdd, Nat.reduceSub, Nat.reduceLT, Nat.reduceEqDiff, Nat.reduceLeDiff, Int.reduceAdd, Int.reduceSub, Int.reduceMul, Int.reduceNeg, Int.reduceLT, Int.reduceLE, Int.reduceEq, Int.reduceMod, Int.reduceDiv, Int.reduceToNat, Nat.add_zero, Nat.zero_add, List.contains_cons, List.contains_nil, Nat.reduceBEq, beq_self_eq_true, reduceCtorEq, and_true, true_and, and_false, false_and, not_true_eq_false, not_false_eq_true, Dv.mulOk_sz, t1, t2, c, c2]
  · by_cases c0 : x * q' - y * p' = 0
    · refine ⟨x, y, -y, x, hd _ ?_, n1, by omega, bx, by_, by omega, by omega, by
        have := sqp n1
        have e : y * -y = -(y * y) := by grind
        omega⟩
      have c' : (x * q' - y * p' < 0) = False := eq_false c
      simp (config := {decide := true}) only [Dv.get, Dv.xV, Dv.xC, Dv.frz, Dv.frzs, Dv.flat, Dv.flats, Dv.clean, Dv.cleans, Dv.frzSlot, Dv.frz1, Dv.frzAt, Dv.put, Dv.addD, Dv.subD, Dv.mulD, Dv.fdivD, Dv.modD, Dv.negD, Dv.x2, Dv.x1, Dv.xsN, Dv.xsC, Dv.xTup, Dv.xLst, Dv.xCall, Dv.asB, Dv.tOf, Dv.tNot, Dv.tAnd, Dv.tOr, Dv.xB, Dv.xIf, Dv.cmpI, Dv.ltD, Dv.leD, Dv.gtD, Dv.geD, Dv.xAnd, Dv.xOr, Dv.xNot, Dv.sN, Dv.sSeq, Dv.sSet, Dv.sRet, Dv.sRetV, Dv.sIf, Dv.sBk, Dv.sCt, Dv.gN, Dv.gsN, Dv.gsC, Dv.gT, Dv.fnD, Dv.ixD, Dv.slD, Dv.pN, Dv.pI, Dv.xSl, Dv.lenD', Dv.intD, Dv.maxD, Dv.minD, Dv.allD, Dv.anyD, Dv.allB, Dv.listD, Dv.xF, Dv.isiD, Dv.eqD, Dv.neD, Dv.isND, Dv.notND, Dv.isN2, Dv.notN2, Dv.sApp, Dv.itL, Dv.itR1, Dv.itR2, Dv.rngL, Dv.zipL, Dv.zipO, Dv.itZ, Dv.enuL, Dv.enuO, Dv.itEn, Dv.wipeD, Dv.keepD, Dv.tY, Dv.sAsg, Dv.sPar, Dv.sPar3, Dv.sAugI, Dv.sDrop, Dv.at_20, Dv.at_21, Dv.at_30, Dv.at_31, Dv.at_32, Dv.at_40, Dv.at_41, Dv.at_42, Dv.at_43, Dv.at_10, Dv.frzs_ints, Dv.cleans_ints, Dv.le_sLine, Dv.sh_non, Dv.sh_bl, Dv.sh_int, Dv.sh_tup, Dv.sh_lst, Dv.eqo_int, Dv.eqo_bl, Dv.eqo_tup, Dv.eqo_lst, Dv.eqos_nil, Dv.eqos_cons, List.all_cons, List.all_nil, Dv.beq_tt, Dv.beq_ff, Dv.beq_tf, Dv.beq_ft, List.getElem?_cons_zero, List.getElem?_cons_succ, List.getElem?_nil, List.set_cons_zero, List.set_cons_succ, List.set_nil, Option.bind_some, Option.bind_none, Option.map_some, Option.map_none, if_true, if_false, ↓reduceIte, decide_true, decide_false, Bool.false_eq_true, Bool.true_and, Bool.and_true, Bool.false_and, Bool.and_false, Bool.not_true, Bool.not_false, Bool.true_or, Bool.or_true, Bool.false_or, Bool.or_false, List.cons_append, List.nil_append, List.length_cons, List.length_nil, List.map_cons, List.map_nil, List.replicate_succ, List.replicate_zero, Nat.reduceAdd, Nat.reduceSub, Nat.reduceLT, Nat.reduceEqDiff, Nat.reduceLeDiff, Int.reduceAdd, Int.reduceSub, Int.reduceMul, Int.reduceNeg, Int.reduceLT, Int.reduceLE, Int.reduceEq, Int.reduceMod, Int.reduceDiv, Int.reduceToNat, Nat.add_zero, Nat.zero_add, List.contains_cons, List.contains_nil, Nat.reduceBEq, beq_self_eq_true, reduceCtorEq, and_true, true_and, and_false, false_and, not_true_eq_false, not_false_eq_true, Dv.mulOk_sz, t1, c0]
    · refine ⟨x, y, p', q', hd _ ?_, n1, n2', bx, by_, bp', bq', by omega⟩
      have c' : (x * q' - y * p' < 0) = False := eq_false c
      have c0' : (x * q' - y * p' = 0) = False := eq_false c0
      simp (config := {decide := true}) only [Dv.get, Dv.xV, Dv.xC, Dv.frz, Dv.frzs, Dv.flat, Dv.flats, Dv.clean, Dv.cleans, Dv.frzSlot, Dv.frz1, Dv.frzAt, Dv.put, Dv.addD, Dv.subD, Dv.mulD, Dv.fdivD, Dv.modD, Dv.negD, Dv.x2, Dv.x1, Dv.xsN, Dv.xsC, Dv.xTup, Dv.xLst, Dv.xCall, Dv.asB, Dv.tOf, Dv.tNot, Dv.tAnd, Dv.tOr, Dv.xB, Dv.xIf, Dv.cmpI, Dv.ltD, Dv.leD, Dv.gtD, Dv.geD, Dv.xAnd, Dv.xOr, Dv.xNot, Dv.sN, Dv.sSeq, Dv.sSet, Dv.sRet, Dv.sRetV, Dv.sIf, Dv.sBk, Dv.sCt, Dv.gN, Dv.gsN, Dv.gsC, Dv.gT, Dv.fnD, Dv.ixD, Dv.slD, Dv.pN, Dv.pI, Dv.xSl, Dv.lenD', Dv.intD, Dv.maxD, Dv.minD, Dv.allD, Dv.anyD, Dv.allB, Dv.listD, Dv.xF, Dv.isiD, Dv.eqD, Dv.neD, Dv.isND, Dv.notND, Dv.isN2, Dv.notN2, Dv.sApp, Dv.itL, Dv.itR1, Dv.itR2, Dv.rngL, Dv.zipL, Dv.zipO, Dv.itZ, Dv.enuL, Dv.enuO, Dv.itEn, Dv.wipeD, Dv.keepD, Dv.tY, Dv.sAsg, Dv.sPar, Dv.sPar3, Dv.sAugI, Dv.sDrop, Dv.at_20, Dv.at_21, Dv.at_30, Dv.at_31, Dv.at_32, Dv.at_40, Dv.at_41, Dv.at_42, Dv.at_43, Dv.at_10, Dv.frzs_ints, Dv.cleans_ints, Dv.le_sLine, Dv.sh_non, Dv.sh_bl, Dv.sh_int, Dv.sh_tup, Dv.sh_lst, Dv.eqo_int, Dv.eqo_bl, Dv.eqo_tup, Dv.eqo_lst, Dv.eqos_nil, Dv.eqos_cons, List.all_cons, List.all_nil, Dv.beq_tt, Dv.beq_ff, Dv.beq_tf, Dv.beq_ft, List.getElem?_cons_zero, List.getElem?_cons_succ, List.getElem?_nil, List.set_cons_zero, List.set_cons_succ, List.set_nil, Option.bind_some, Option.bind_none, Option.map_some, Option.map_none, if_true, if_false, ↓reduceIte, decide_true, decide_false, Bool.false_eq_true, Bool.true_and, Bool.and_true, Bool.false_and, Bool.and_false, Bool.not_true, Bool.not_false, Bool.true_or, Bool.or_true, Bool.false_or, Bool.or_false, List.cons_append, List.nil_append, List.length_cons, List.length_nil, List.map_cons, List.map_nil, List.replicate_succ, List.replicate_zero, Nat.reduceAdd, Nat.reduceSub, Nat.reduceLT, Nat.reduceEqDiff, Nat.reduceLeDiff, Int.reduceAdd, Int.reduceSub, Int.reduceMul, Int.reduceNeg, Int.reduceLT, Int.reduceLE, Int.reduceEq, Int.reduceMod, Int.reduceDiv, Int.reduceToNat, Nat.add_zero, Nat.zero_add, List.contains_cons, List.contains_nil, Nat.reduceBEq, beq_self_eq_true, reduceCtorEq, and_true, true_and, and_false, false_and, not_true_eq_false, not_false_eq_true, Dv.mulOk_sz, t1, c', c0']
end Sm

end
section
set_option Elab.async false
set_option linter.all false
set_option maxRecDepth 100000
/-! the law's banks: six shapes from two directions, from a drawn corner on -/
namespace Sm
open Dv
/-- the six shapes, as steps -/
def lds (x y p q : Int) : List (List S2) :=
  [[(x, y), (p - x, q - y), (-p, -q)],
   [(x, y), (p, q), (-x, -y), (-p, -q)],
   [(2 * x, 2 * y), (p, q), (p - x, q - y), (-x, -y), (-2 * p, -2 * q)],
   [(x, y), (x + p, y + q), (p, q), (-x, -y), (-x - p, -y - q), (-p, -q)],
   [(x, y), (2 * x + p, 2 * y + q), (x + 2 * p, y + 2 * q), (p, q), (-x, -y), (-2 * x - p, -2 * y - q), (-x - 3 * p, -y - 3 * q)],
   [(x, y), (2 * x + p, 2 * y + q), (x + 2 * p, y + 2 * q), (p, q), (-x, -y), (-2 * x - p, -2 * y - q), (-x - 2 * p, -y - 2 * q), (-p, -q)]]
/-- the places that the steps lead to, the first one first -/
def trl : S2 → List S2 → List S2
  | _, [] => []
  | h, d :: r => h :: trl (h.1 + d.1, h.2 + d.2) r
theorem trl_len : ∀ (h : S2) (r : List S2), (trl h r).length = r.length
  | _, [] => rfl
  | h, d :: r => by show (trl _ r).length + 1 = _; rw [trl_len]; rfl
def rot (n : Nat) (B : List S2) : List S2 := B.drop n ++ B.take n
theorem bnk_loop (t0 t1 t2 t3 t4 t5 t6 t7 t8 t9 t11 t15 : Option O) : ∀ (r : List S2) (h : S2) (A : List S2) (o13 o14 : Option O), A.length + r.length ≤ 1000 → ∃ (h' : S2) (o13' o14' : Option O),
    forD (gT 2 (gsC (gN 13) (gsC (gN 14) (gsN)))) b1__law_bank (r.map pO) [t0, t1, t2, t3, t4, t5, t6, t7, t8, t9, some (pO h), t11, some (.lst true (A.map pO)), o13, o14, t15] =
      some (.nx [t0, t1, t2, t3, t4, t5, t6, t7, t8, t9, some (pO h'), t11, some (.lst true ((A ++ trl h r).map pO)), o13', o14', t15])
  | [], h, A, o13, o14, _ => ⟨h, o13, o14, by rw [show trl h [] = [] from rfl, List.append_nil]; rfl⟩
  | d :: r, h, A, o13, o14, l => by
    rw [List.length_cons] at l
    obtain ⟨h', o13', o14', e⟩ := bnk_loop t0 t1 t2 t3 t4 t5 t6 t7 t8 t9 t11 t15 r (h.1 + d.1, h.2 + d.2) (A ++ [h]) (some (.int d.1)) (some (.int d.2)) (by rw [List.length_append]; show A.length + 1 + r.length ≤ 1000; omega)
    refine ⟨h', o13', o14', ?_⟩
    have ap : A.map pO ++ [pO h] = (A ++ [h]).map pO := by rw [List.map_append]; rfl
    have la : ((A.map pO).length < sLine) = True := lt_line (by rw [List.length_map]; omega)
    have st : b1__law_bank [t0, t1, t2, t3, t4, t5, t6, t7, t8, t9, some (pO h), t11, some (.lst true (A.map pO)), some (.int d.1), some (.int d.2), t15] =
        some (.nx [t0, t1, t2, t3, t4, t5, t6, t7, t8, t9, some (pO (h.1 + d.1, h.2 + d.2)), t11, some (.lst true ((A ++ [h]).map pO)), some (.int d.1), some (.int d.2), t15]) := by
      rw [← ap]
      obtain ⟨G, hG⟩ : ∃ G, A.map pO = G := ⟨_, rfl⟩
      rw [hG] at la ⊢
      unfold b1__law_bank pO
      simp (config := {decide := true}) only [Dv.get, Dv.xV, Dv.xC, Dv.frz, Dv.frzs, Dv.flat, Dv.flats, Dv.clean, Dv.cleans, Dv.frzSlot, Dv.frz1, Dv.frzAt, Dv.put, Dv.addD, Dv.subD, Dv.mulD, Dv.fdivD, Dv.modD, Dv.negD, Dv.x2, Dv.x1, Dv.xsN, Dv.xsC, Dv.xTup, Dv.xLst, Dv.xCall, Dv.asB, Dv.tOf, Dv.tNot, Dv.tAnd, Dv.tOr, Dv.xB, Dv.xIf, Dv.cmpI, Dv.ltD, Dv.leD, Dv.gtD, Dv.geD, Dv.xAnd, Dv.xOr, Dv.xNot, Dv.sN, Dv.sSeq, Dv.sSet, Dv.sRet, Dv.sRetV, Dv.sIf, Dv.sBk, Dv.sCt, Dv.gN, Dv.gsN, Dv.gsC, Dv.gT, Dv.fnD, Dv.ixD, Dv.slD, Dv.pN, Dv.pI, Dv.xSl, Dv.lenD', Dv.intD, Dv.maxD, Dv.minD, Dv.allD, Dv.anyD, Dv.allB, Dv.listD, Dv.xF, Dv.isiD, Dv.eqD, Dv.neD, Dv.isND, Dv.notND, Dv.isN2, Dv.notN2, Dv.sApp, Dv.itL, Dv.itR1, Dv.itR2, Dv.rngL, Dv.zipL, Dv.zipO, Dv.itZ, Dv.enuL, Dv.enuO, Dv.itEn, Dv.wipeD, Dv.keepD, Dv.tY, Dv.sAsg, Dv.sPar, Dv.sPar3, Dv.sAugI, Dv.sDrop, Dv.at_20, Dv.at_21, Dv.at_30, Dv.at_31, Dv.at_32, Dv.at_40, Dv.at_41, Dv.at_42, Dv.at_43, Dv.at_10, Dv.frzs_ints, Dv.cleans_ints, Dv.le_sLine, Dv.sh_non, Dv.sh_bl, Dv.sh_int, Dv.sh_tup, Dv.sh_lst, Dv.eqo_int, Dv.eqo_bl, Dv.eqo_tup, Dv.eqo_lst, Dv.eqos_nil, Dv.eqos_cons, List.all_cons, List.all_nil, Dv.beq_tt, Dv.beq_ff, Dv.beq_tf, Dv.beq_ft, List.getElem?_cons_zero, List.getElem?_cons_succ, List.getElem?_nil, List.set_cons_zero, List.set_cons_succ, List.set_nil, Option.bind_some, Option.bind_none, Option.map_some, Option.map_none, if_true, if_false, ↓reduceIte, decide_true, decide_false, Bool.false_eq_true, Bool.true_and, Bool.and_true, Bool.false_and, Bool.and_false, Bool.not_true, Bool.not_false, Bool.true_or, Bool.or_true, Bool.false_or, Bool.or_false, List.cons_append, List.nil_append, List.length_cons, List.length_nil, List.map_cons, List.map_nil, List.replicate_succ, List.replicate_zero, Nat.reduceAdd, Nat.reduceSub, Nat.reduceLT, Nat.reduceEqDiff, Nat.reduceLeDiff, Int.reduceAdd, Int.reduceSub, Int.reduceMul, Int.reduceNeg, Int.reduceLT, Int.reduceLE, Int.reduceEq, Int.reduceMod, Int.reduceDiv, Int.reduceToNat, Nat.add_zero, Nat.zero_add, List.contains_cons, List.contains_nil, Nat.reduceBEq, beq_self_eq_true, reduceCtorEq, and_true, true_and, and_false, false_and, not_true_eq_false, not_false_eq_true, Dv.mulOk_sz, la]
    rw [List.map_cons, forD_cons (τ1 := [t0, t1, t2, t3, t4, t5, t6, t7, t8, t9, some (pO h), t11, some (.lst true (A.map pO)), some (.int d.1), some (.int d.2), t15]) rfl st, e]
    have : A ++ [h] ++ trl (h.1 + d.1, h.2 + d.2) r = A ++ trl h (d :: r) := by rw [List.append_assoc]; rfl
    rw [this]
def lO (r : List S2) : O := .lst true (r.map pO)
def lF (r : List S2) : O := .lst false (r.map pO)
theorem frzs_lO : ∀ (M : List (List S2)), frzs (M.map lO) = M.map lF
  | [] => rfl
  | r :: M => by
    show O.lst false (frzs (r.map pO)) :: frzs (M.map lO) = _
    rw [frzs_pO, frzs_lO M]; rfl
theorem bank_eq (o : Bool) (L : List Int) (hC : Cells 9 L) (w : Int) (w0 : 1 ≤ w) (w1 : w ≤ 1000) : ∃ (x y p q : Int) (h : S2) (r : List S2) (n : Nat), f__law_bank [.lst o (L.map O.int), .int w] = some (.lst true ((rot n (trl h r)).map pO)) ∧ r ∈ lds x y p q ∧ n < r.length ∧
    (-w ≤ x ∧ x ≤ w) ∧ (-w ≤ y ∧ y ≤ w) ∧ (-w ≤ p ∧ p ≤ w) ∧ (-w ≤ q ∧ q ≤ w) ∧ 0 < x * q - y * p ∧ (-20 ≤ h.1 ∧ h.1 ≤ 20) ∧ (-20 ≤ h.2 ∧ h.2 ≤ 20) := by
  obtain ⟨a5, i5, _, l5, u5⟩ := hC.at 5 (by decide) (by omega)
  obtain ⟨a6, i6, _, l6, u6⟩ := hC.at 6 (by decide) (by omega)
  obtain ⟨a7, i7, _, l7, u7⟩ := hC.at 7 (by decide) (by omega)
  obtain ⟨a8, i8, _, l8, u8⟩ := hC.at 8 (by decide) (by omega)
  obtain ⟨x, y, p, q, hp, n1, n2, bx, by_, bp, bq, tn⟩ := left_pair_eq false L (hC.mono (m := 5) (by omega)) w w0 (by omega)
  haveI : Sz 1 x := sz1 (by omega) (by omega)
  haveI : Sz 1 y := sz1 (by omega) (by omega)
  haveI : Sz 1 p := sz1 (by omega) (by omega)
  haveI : Sz 1 q := sz1 (by omega) (by omega)
  have d41 : divOk 41 = true := by decide
  have d6 : divOk 6 = true := by decide
  obtain ⟨hx, hhx⟩ : ∃ z, a5 % 41 - 20 = z := ⟨_, rfl⟩
  obtain ⟨hy, hhy⟩ : ∃ z, a6 % 41 - 20 = z := ⟨_, rfl⟩
  obtain ⟨j, hj⟩ : ∃ j : Nat, a7 % 6 = j := ⟨(a7 % 6).toNat, by omega⟩
  have j6 : j < (lds x y p q).length := by show j < 6; omega
  obtain ⟨r, hr⟩ : ∃ r, (lds x y p q)[j]? = some r := ⟨_, List.getElem?_eq_getElem j6⟩
  have mr := List.mem_of_getElem? hr
  have lr : 3 ≤ r.length ∧ r.length ≤ 8 := by
    unfold lds at mr
    simp only [List.mem_cons, List.not_mem_nil, or_false] at mr
    rcases mr with rfl | rfl | rfl | rfl | rfl | rfl <;> simp
  obtain ⟨n, hn⟩ : ∃ n : Nat, a8 % (r.length : Int) = n := ⟨(a8 % (r.length : Int)).toNat, by have := Int.emod_nonneg a8 (show (r.length : Int) ≠ 0 by omega); omega⟩
  have nr : n < r.length := by have := Int.emod_lt_of_pos a8 (show 0 < (r.length : Int) by omega); omega
  refine ⟨x, y, p, q, (hx, hy), r, n, ?_, mr, nr, bx, by_, bp, bq, tn, by simp only; omega, by simp only; omega⟩
  obtain ⟨Ls, hLs⟩ : ∃ Ls, L.map O.int = Ls := ⟨_, rfl⟩
  have fL : frzs Ls = Ls := by rw [← hLs]; exact frzs_ints L
  rw [hLs] at hp i5 i6 i7 i8 ⊢
  have s4 : ((4 : Nat) < sLine) = True := eq_true (by decide)
  have s5 : ((5 : Nat) < sLine) = True := eq_true (by decide)
  have z7 : ((7 : Nat) ≤ sLine) = True := eq_true (by decide)
  have z8 : ((8 : Nat) ≤ sLine) = True := eq_true (by decide)
  have z2 : ∀ k : Nat, k ≤ 10 → (k ≤ sLine) = True := fun k h => eq_true (Nat.le_trans h (by decide))
  unfold f__law_bank s__law_bank
  refine fnD_of (τ := [some (.lst false Ls), some (.int w), none, none, none, none, none, none, none, none, none, none, none, none, none, none]) rfl (by show [some (O.lst false (frzs Ls)), _, _, _, _, _, _, _, _, _, _, _, _, _, _, _] = _; rw [fL]; rfl) ?_
  refine seq_nx (τ' := [some (.lst false Ls), some (.int w), some (.tup [.int x, .int y]), some (.tup [.int p, .int q]), none, none, none, none, none, none, none, none, none, none, none, none]) (by simp (config := {decide := true}) only [Dv.get, Dv.xV, Dv.xC, Dv.frz, Dv.frzs, Dv.flat, Dv.flats, Dv.clean, Dv.cleans, Dv.frzSlot, Dv.frz1, Dv.frzAt, Dv.put, Dv.addD, Dv.subD, Dv.mulD, Dv.fdivD, Dv.modD, Dv.negD, Dv.x2, Dv.x1, Dv.xsN, Dv.xsC, Dv.xTup, Dv.xLst, Dv.xCall, Dv.asB, Dv.tOf, Dv.tNot, Dv.tAnd, Dv.tOr, Dv.xB, Dv.xIf, Dv.cmpI, Dv.ltD, Dv.leD, Dv.gtD, Dv.geD, Dv.xAnd, Dv.xOr, Dv.xNot, Dv.sN, Dv.sSeq, Dv.sSet, Dv.sRet, Dv.sRetV, Dv.sIf, Dv.sBk, Dv.sCt, Dv.gN, Dv.gsN, Dv.gsC, Dv.gT, Dv.fnD, Dv.ixD, Dv.slD, Dv.pN, Dv.pI, Dv.xSl, Dv.lenD', Dv.intD, Dv.maxD, Dv.minD, Dv.allD, Dv.anyD, Dv.allB, Dv.listD, Dv.xF, Dv.isiD, Dv.eqD, Dv.neD, Dv.isND, Dv.notND, Dv.isN2, Dv.notN2, Dv.sApp, Dv.itL, Dv.itR1, Dv.itR2, Dv.rngL, Dv.zipL, Dv.zipO, Dv.itZ, Dv.enuL, Dv.enuO, Dv.itEn, Dv.wipeD, Dv.keepD, Dv.tY, Dv.sAsg, Dv.sPar, Dv.sPar3, Dv.sAugI, Dv.sDrop, Dv.at_20, Dv.at_21, Dv.at_30, Dv.at_31, Dv.at_32, Dv.at_40, Dv.at_41, Dv.at_42, Dv.at_43, Dv.at_10, Dv.frzs_ints, Dv.cleans_ints, Dv.le_sLine, Dv.sh_non, Dv.sh_bl, Dv.sh_int, Dv.sh_tup, Dv.sh_lst, Dv.eqo_int, Dv.eqo_bl, Dv.eqo_tup, Dv.eqo_lst, Dv.eqos_nil, Dv.eqos_cons, List.all_cons, List.all_nil, Dv.beq_tt, Dv.beq_ff, Dv.beq_tf, Dv.beq_ft, List.getElem?_cons_zero, List.getElem?_cons_succ, List.getElem?_nil, List.set_cons_zero, List.set_cons_succ, List.set_nil, Option.bind_some, Option.bind_none, Option.map_some, Option.map_none, if_true, if_false, ↓reduceIte, decide_true, decide_false, Bool.false_eq_true, Bool.true_and, Bool.and_true, Bool.false_and, Bool.and_false, Bool.not_true, Bool.not_false, Bool.true_or, Bool.or_true, Bool.false_or, Bool.or_false, List.cons_append, List.nil_append, List.length_cons, List.length_nil, List.map_cons, List.map_nil, List.replicate_succ, List.replicate_zero, Nat.reduceAdd, Nat.reduceSub, Nat.reduceLT, Nat.reduceEqDiff, Nat.reduceLeDiff, Int.reduceAdd, Int.reduceSub, Int.reduceMul, Int.reduceNeg, Int.reduceLT, Int.reduceLE, Int.reduceEq, Int.reduceMod, Int.reduceDiv, Int.reduceToNat, Nat.add_zero, Nat.zero_add, List.contains_cons, List.contains_nil, Nat.reduceBEq, beq_self_eq_true, reduceCtorEq, and_true, true_and, and_false, false_and, not_true_eq_false, not_false_eq_true, Dv.mulOk_sz, fL, hp]) ?_
  refine seq_nx (τ' := [some (.lst false Ls), some (.int w), some (.tup [.int x, .int y]), some (.tup [.int p, .int q]), some (.int x), some (.int y), none, none, none, none, none, none, none, none, none, none]) (by simp (config := {decide := true}) only [Dv.get, Dv.xV, Dv.xC, Dv.frz, Dv.frzs, Dv.flat, Dv.flats, Dv.clean, Dv.cleans, Dv.frzSlot, Dv.frz1, Dv.frzAt, Dv.put, Dv.addD, Dv.subD, Dv.mulD, Dv.fdivD, Dv.modD, Dv.negD, Dv.x2, Dv.x1, Dv.xsN, Dv.xsC, Dv.xTup, Dv.xLst, Dv.xCall, Dv.asB, Dv.tOf, Dv.tNot, Dv.tAnd, Dv.tOr, Dv.xB, Dv.xIf, Dv.cmpI, Dv.ltD, Dv.leD, Dv.gtD, Dv.geD, Dv.xAnd, Dv.xOr, Dv.xNot, Dv.sN, Dv.sSeq, Dv.sSet, Dv.sRet, Dv.sRetV, Dv.sIf, Dv.sBk, Dv.sCt, Dv.gN, Dv.gsN, Dv.gsC, Dv.gT, Dv.fnD, Dv.ixD, Dv.slD, Dv.pN, Dv.pI, Dv.xSl, Dv.lenD', Dv.intD, Dv.maxD, Dv.minD, Dv.allD, Dv.anyD, Dv.allB, Dv.listD, Dv.xF, Dv.isiD, Dv.eqD, Dv.neD, Dv.isND, Dv.notND, Dv.isN2, Dv.notN2, Dv.sApp, Dv.itL, Dv.itR1, Dv.itR2, Dv.rngL, Dv.zipL, Dv.zipO, Dv.itZ, Dv.enuL, Dv.enuO, Dv.itEn, Dv.wipeD, Dv.keepD, Dv.tY, Dv.sAsg, Dv.sPar, Dv.sPar3, Dv.sAugI, Dv.sDrop, Dv.at_20, Dv.at_21, Dv.at_30, Dv.at_31, Dv.at_32, Dv.at_40, Dv.at_41, Dv.at_42, Dv.at_43, Dv.at_10, Dv.frzs_ints, Dv.cleans_ints, Dv.le_sLine, Dv.sh_non, Dv.sh_bl, Dv.sh_int, Dv.sh_tup, Dv.sh_lst, Dv.eqo_int, Dv.eqo_bl, Dv.eqo_tup, Dv.eqo_lst, Dv.eqos_nil, Dv.eqos_cons, List.all_cons, List.all_nil, Dv.beq_tt, Dv.beq_ff, Dv.beq_tf, Dv.beq_ft, List.getElem?_cons_zero, List.getElem?_cons_succ, List.getElem?_nil, List.set_cons_zero, List.set_cons_succ, List.set_nil, Option.bind_some, Option.bind_none, Option.map_some, Option.map_none, if_true, if_false, ↓reduceIte, decide_true, decide_false, Bool.false_eq_true, Bool.true_and, Bool.and_true, Bool.false_and, Bool.and_false, Bool.not_true, Bool.not_false, Bool.true_or, Bool.or_true, Bool.false_or, Bool.or_false, List.cons_append, List.nil_append, List.length_cons, List.length_nil, List.map_cons, List.map_nil, List.replicate_succ, List.replicate_zero, Nat.reduceAdd, Nat.reduceSub, Nat.reduceLT, Nat.reduceEqDiff, Nat.reduceLeDiff, Int.reduceAdd, Int.reduceSub, Int.reduceMul, Int.reduceNeg, Int.reduceLT, Int.reduceLE, Int.reduceEq, Int.reduceMod, Int.reduceDiv, Int.reduceToNat, Nat.add_zero, Nat.zero_add, List.contains_cons, List.contains_nil, Nat.reduceBEq, beq_self_eq_true, reduceCtorEq, and_true, true_and, and_false, false_and, not_true_eq_false, not_false_eq_true, Dv.mulOk_sz, ]) ?_
  refine seq_nx (τ' := [some (.lst false Ls), some (.int w), some (.tup [.int x, .int y]), some (.tup [.int p, .int q]), some (.int x), some (.int y), some (.int p), some (.int q), none, none, none, none, none, none, none, none]) (by simp (config := {decide := true}) only [Dv.get, Dv.xV, Dv.xC, Dv.frz, Dv.frzs, Dv.flat, Dv.flats, Dv.clean, Dv.cleans, Dv.frzSlot, Dv.frz1, Dv.frzAt, Dv.put, Dv.addD, Dv.subD, Dv.mulD, Dv.fdivD, Dv.modD, Dv.negD, Dv.x2, Dv.x1, Dv.xsN, Dv.xsC, Dv.xTup, Dv.xLst, Dv.xCall, Dv.asB, Dv.tOf, Dv.tNot, Dv.tAnd, Dv.tOr, Dv.xB, Dv.xIf, Dv.cmpI, Dv.ltD, Dv.leD, Dv.gtD, Dv.geD, Dv.xAnd, Dv.xOr, Dv.xNot, Dv.sN, Dv.sSeq, Dv.sSet, Dv.sRet, Dv.sRetV, Dv.sIf, Dv.sBk, Dv.sCt, Dv.gN, Dv.gsN, Dv.gsC, Dv.gT, Dv.fnD, Dv.ixD, Dv.slD, Dv.pN, Dv.pI, Dv.xSl, Dv.lenD', Dv.intD, Dv.maxD, Dv.minD, Dv.allD, Dv.anyD, Dv.allB, Dv.listD, Dv.xF, Dv.isiD, Dv.eqD, Dv.neD, Dv.isND, Dv.notND, Dv.isN2, Dv.notN2, Dv.sApp, Dv.itL, Dv.itR1, Dv.itR2, Dv.rngL, Dv.zipL, Dv.zipO, Dv.itZ, Dv.enuL, Dv.enuO, Dv.itEn, Dv.wipeD, Dv.keepD, Dv.tY, Dv.sAsg, Dv.sPar, Dv.sPar3, Dv.sAugI, Dv.sDrop, Dv.at_20, Dv.at_21, Dv.at_30, Dv.at_31, Dv.at_32, Dv.at_40, Dv.at_41, Dv.at_42, Dv.at_43, Dv.at_10, Dv.frzs_ints, Dv.cleans_ints, Dv.le_sLine, Dv.sh_non, Dv.sh_bl, Dv.sh_int, Dv.sh_tup, Dv.sh_lst, Dv.eqo_int, Dv.eqo_bl, Dv.eqo_tup, Dv.eqo_lst, Dv.eqos_nil, Dv.eqos_cons, List.all_cons, List.all_nil, Dv.beq_tt, Dv.beq_ff, Dv.beq_tf, Dv.beq_ft, List.getElem?_cons_zero, List.getElem?_cons_succ, List.getElem?_nil, List.set_cons_zero, List.set_cons_succ, List.set_nil, Option.bind_some, Option.bind_none, Option.map_some, Option.map_none, if_true, if_false, ↓reduceIte, decide_true, decide_false, Bool.false_eq_true, Bool.true_and, Bool.and_true, Bool.false_and, Bool.and_false, Bool.not_true, Bool.not_false, Bool.true_or, Bool.or_true, Bool.false_or, Bool.or_false, List.cons_append, List.nil_append, List.length_cons, List.length_nil, List.map_cons, List.map_nil, List.replicate_succ, List.replicate_zero, Nat.reduceAdd, Nat.reduceSub, Nat.reduceLT, Nat.reduceEqDiff, Nat.reduceLeDiff, Int.reduceAdd, Int.reduceSub, Int.reduceMul, Int.reduceNeg, Int.reduceLT, Int.reduceLE, Int.reduceEq, Int.reduceMod, Int.reduceDiv, Int.reduceToNat, Nat.add_zero, Nat.zero_add, List.contains_cons, List.contains_nil, Nat.reduceBEq, beq_self_eq_true, reduceCtorEq, and_true, true_and, and_false, false_and, not_true_eq_false, not_false_eq_true, Dv.mulOk_sz, ]) ?_
  refine seq_nx (τ' := [some (.lst false Ls), some (.int w), some (.tup [.int x, .int y]), some (.tup [.int p, .int q]), some (.int x), some (.int y), some (.int p), some (.int q), some (.lst true (((lds x y p q).take 4).map lO)), none, none, none, none, none, none, none]) (by simp (config := {decide := true}) only [Dv.get, Dv.xV, Dv.xC, Dv.frz, Dv.frzs, Dv.flat, Dv.flats, Dv.clean, Dv.cleans, Dv.frzSlot, Dv.frz1, Dv.frzAt, Dv.put, Dv.addD, Dv.subD, Dv.mulD, Dv.fdivD, Dv.modD, Dv.negD, Dv.x2, Dv.x1, Dv.xsN, Dv.xsC, Dv.xTup, Dv.xLst, Dv.xCall, Dv.asB, Dv.tOf, Dv.tNot, Dv.tAnd, Dv.tOr, Dv.xB, Dv.xIf, Dv.cmpI, Dv.ltD, Dv.leD, Dv.gtD, Dv.geD, Dv.xAnd, Dv.xOr, Dv.xNot, Dv.sN, Dv.sSeq, Dv.sSet, Dv.sRet, Dv.sRetV, Dv.sIf, Dv.sBk, Dv.sCt, Dv.gN, Dv.gsN, Dv.gsC, Dv.gT, Dv.fnD, Dv.ixD, Dv.slD, Dv.pN, Dv.pI, Dv.xSl, Dv.lenD', Dv.intD, Dv.maxD, Dv.minD, Dv.allD, Dv.anyD, Dv.allB, Dv.listD, Dv.xF, Dv.isiD, Dv.eqD, Dv.neD, Dv.isND, Dv.notND, Dv.isN2, Dv.notN2, Dv.sApp, Dv.itL, Dv.itR1, Dv.itR2, Dv.rngL, Dv.zipL, Dv.zipO, Dv.itZ, Dv.enuL, Dv.enuO, Dv.itEn, Dv.wipeD, Dv.keepD, Dv.tY, Dv.sAsg, Dv.sPar, Dv.sPar3, Dv.sAugI, Dv.sDrop, Dv.at_20, Dv.at_21, Dv.at_30, Dv.at_31, Dv.at_32, Dv.at_40, Dv.at_41, Dv.at_42, Dv.at_43, Dv.at_10, Dv.frzs_ints, Dv.cleans_ints, Dv.le_sLine, Dv.sh_non, Dv.sh_bl, Dv.sh_int, Dv.sh_tup, Dv.sh_lst, Dv.eqo_int, Dv.eqo_bl, Dv.eqo_tup, Dv.eqo_lst, Dv.eqos_nil, Dv.eqos_cons, List.all_cons, List.all_nil, Dv.beq_tt, Dv.beq_ff, Dv.beq_tf, Dv.beq_ft, List.getElem?_cons_zero, List.getElem?_cons_succ, List.getElem?_nil, List.set_cons_zero, List.set_cons_succ, List.set_nil, Option.bind_some, Option.bind_none, Option.map_some, Option.map_none, if_true, if_false, ↓reduceIte, decide_true, decide_false, Bool.false_eq_true, Bool.true_and, Bool.and_true, Bool.false_and, Bool.and_false, Bool.not_true, Bool.not_false, Bool.true_or, Bool.or_true, Bool.false_or, Bool.or_false, List.cons_append, List.nil_append, List.length_cons, List.length_nil, List.map_cons, List.map_nil, List.replicate_succ, List.replicate_zero, Nat.reduceAdd, Nat.reduceSub, Nat.reduceLT, Nat.reduceEqDiff, Nat.reduceLeDiff, Int.reduceAdd, Int.reduceSub, Int.reduceMul, Int.reduceNeg, Int.reduceLT, Int.reduceLE, Int.reduceEq, Int.reduceMod, Int.reduceDiv, Int.reduceToNat, Nat.add_zero, Nat.zero_add, List.contains_cons, List.contains_nil, Nat.reduceBEq, beq_self_eq_true, reduceCtorEq, and_true, true_and, and_false, false_and, not_true_eq_false, not_false_eq_true, Dv.mulOk_sz, z2] <;> rfl) ?_
  refine seq_nx (τ' := [some (.lst false Ls), some (.int w), some (.tup [.int x, .int y]), some (.tup [.int p, .int q]), some (.int x), some (.int y), some (.int p), some (.int q), some (.lst true (((lds x y p q).take 4).map lO)), some (.lst true ([((x, y) : S2), (2 * x + p, 2 * y + q), (x + 2 * p, y + 2 * q), (p, q), (-x, -y)].map pO)), none, none, none, none, none, none]) (by simp (config := {decide := true}) only [Dv.get, Dv.xV, Dv.xC, Dv.frz, Dv.frzs, Dv.flat, Dv.flats, Dv.clean, Dv.cleans, Dv.frzSlot, Dv.frz1, Dv.frzAt, Dv.put, Dv.addD, Dv.subD, Dv.mulD, Dv.fdivD, Dv.modD, Dv.negD, Dv.x2, Dv.x1, Dv.xsN, Dv.xsC, Dv.xTup, Dv.xLst, Dv.xCall, Dv.asB, Dv.tOf, Dv.tNot, Dv.tAnd, Dv.tOr, Dv.xB, Dv.xIf, Dv.cmpI, Dv.ltD, Dv.leD, Dv.gtD, Dv.geD, Dv.xAnd, Dv.xOr, Dv.xNot, Dv.sN, Dv.sSeq, Dv.sSet, Dv.sRet, Dv.sRetV, Dv.sIf, Dv.sBk, Dv.sCt, Dv.gN, Dv.gsN, Dv.gsC, Dv.gT, Dv.fnD, Dv.ixD, Dv.slD, Dv.pN, Dv.pI, Dv.xSl, Dv.lenD', Dv.intD, Dv.maxD, Dv.minD, Dv.allD, Dv.anyD, Dv.allB, Dv.listD, Dv.xF, Dv.isiD, Dv.eqD, Dv.neD, Dv.isND, Dv.notND, Dv.isN2, Dv.notN2, Dv.sApp, Dv.itL, Dv.itR1, Dv.itR2, Dv.rngL, Dv.zipL, Dv.zipO, Dv.itZ, Dv.enuL, Dv.enuO, Dv.itEn, Dv.wipeD, Dv.keepD, Dv.tY, Dv.sAsg, Dv.sPar, Dv.sPar3, Dv.sAugI, Dv.sDrop, Dv.at_20, Dv.at_21, Dv.at_30, Dv.at_31, Dv.at_32, Dv.at_40, Dv.at_41, Dv.at_42, Dv.at_43, Dv.at_10, Dv.frzs_ints, Dv.cleans_ints, Dv.le_sLine, Dv.sh_non, Dv.sh_bl, Dv.sh_int, Dv.sh_tup, Dv.sh_lst, Dv.eqo_int, Dv.eqo_bl, Dv.eqo_tup, Dv.eqo_lst, Dv.eqos_nil, Dv.eqos_cons, List.all_cons, List.all_nil, Dv.beq_tt, Dv.beq_ff, Dv.beq_tf, Dv.beq_ft, List.getElem?_cons_zero, List.getElem?_cons_succ, List.getElem?_nil, List.set_cons_zero, List.set_cons_succ, List.set_nil, Option.bind_some, Option.bind_none, Option.map_some, Option.map_none, if_true, if_false, ↓reduceIte, decide_true, decide_false, Bool.false_eq_true, Bool.true_and, Bool.and_true, Bool.false_and, Bool.and_false, Bool.not_true, Bool.not_false, Bool.true_or, Bool.or_true, Bool.false_or, Bool.or_false, List.cons_append, List.nil_append, List.length_cons, List.length_nil, List.map_cons, List.map_nil, List.replicate_succ, List.replicate_zero, Nat.reduceAdd, Nat.reduceSub, Nat.reduceLT, Nat.reduceEqDiff, Nat.reduceLeDiff, Int.reduceAdd, Int.reduceSub, Int.reduceMul, Int.reduceNeg, Int.reduceLT, Int.reduceLE, Int.reduceEq, Int.reduceMod, Int.reduceDiv, Int.reduceToNat, Nat.add_zero, Nat.zero_add, List.contains_cons, List.contains_nil, Nat.reduceBEq, beq_self_eq_true, reduceCtorEq, and_true, true_and, and_false, false_and, not_true_eq_false, not_false_eq_true, Dv.mulOk_sz, z2] <;> rfl) ?_
  refine seq_nx (τ' := [some (.lst false Ls), some (.int w), some (.tup [.int x, .int y]), some (.tup [.int p, .int q]), some (.int x), some (.int y), some (.int p), some (.int q), some (.lst true (((lds x y p q).take 5).map lO)), some (.lst true ([((x, y) : S2), (2 * x + p, 2 * y + q), (x + 2 * p, y + 2 * q), (p, q), (-x, -y)].map pO)), none, none, none, none, none, none]) (by simp (config := {decide := true}) only [Dv.get, Dv.xV, Dv.xC, Dv.frz, Dv.frzs, Dv.flat, Dv.flats, Dv.clean, Dv.cleans, Dv.frzSlot, Dv.frz1, Dv.frzAt, Dv.put, Dv.addD, Dv.subD, Dv.mulD, Dv.fdivD, Dv.modD, Dv.negD, Dv.x2, Dv.x1, Dv.xsN, Dv.xsC, Dv.xTup, Dv.xLst, Dv.xCall, Dv.asB, Dv.tOf, Dv.tNot, Dv.tAnd, Dv.tOr, Dv.xB, Dv.xIf, Dv.cmpI, Dv.ltD, Dv.leD, Dv.gtD, Dv.geD, Dv.xAnd, Dv.xOr, Dv.xNot, Dv.sN, Dv.sSeq, Dv.sSet, Dv.sRet, Dv.sRetV, Dv.sIf, Dv.sBk, Dv.sCt, Dv.gN, Dv.gsN, Dv.gsC, Dv.gT, Dv.fnD, Dv.ixD, Dv.slD, Dv.pN, Dv.pI, Dv.xSl, Dv.lenD', Dv.intD, Dv.maxD, Dv.minD, Dv.allD, Dv.anyD, Dv.allB, Dv.listD, Dv.xF, Dv.isiD, Dv.eqD, Dv.neD, Dv.isND, Dv.notND, Dv.isN2, Dv.notN2, Dv.sApp, Dv.itL, Dv.itR1, Dv.itR2, Dv.rngL, Dv.zipL, Dv.zipO, Dv.itZ, Dv.enuL, Dv.enuO, Dv.itEn, Dv.wipeD, Dv.keepD, Dv.tY, Dv.sAsg, Dv.sPar, Dv.sPar3, Dv.sAugI, Dv.sDrop, Dv.at_20, Dv.at_21, Dv.at_30, Dv.at_31, Dv.at_32, Dv.at_40, Dv.at_41, Dv.at_42, Dv.at_43, Dv.at_10, Dv.frzs_ints, Dv.cleans_ints, Dv.le_sLine, Dv.sh_non, Dv.sh_bl, Dv.sh_int, Dv.sh_tup, Dv.sh_lst, Dv.eqo_int, Dv.eqo_bl, Dv.eqo_tup, Dv.eqo_lst, Dv.eqos_nil, Dv.eqos_cons, List.all_cons, List.all_nil, Dv.beq_tt, Dv.beq_ff, Dv.beq_tf, Dv.beq_ft, List.getElem?_cons_zero, List.getElem?_cons_succ, List.getElem?_nil, List.set_cons_zero, List.set_cons_succ, List.set_nil, Option.bind_some, Option.bind_none, Option.map_some, Option.map_none, if_true, if_false, ↓reduceIte, decide_true, decide_false, Bool.false_eq_true, Bool.true_and, Bool.and_true, Bool.false_and, Bool.and_false, Bool.not_true, Bool.not_false, Bool.true_or, Bool.or_true, Bool.false_or, Bool.or_false, List.cons_append, List.nil_append, List.length_cons, List.length_nil, List.map_cons, List.map_nil, List.replicate_succ, List.replicate_zero, Nat.reduceAdd, Nat.reduceSub, Nat.reduceLT, Nat.reduceEqDiff, Nat.reduceLeDiff, Int.reduceAdd, Int.reduceSub, Int.reduceMul, Int.reduceNeg, Int.reduceLT, Int.reduceLE, Int.reduceEq, Int.reduceMod, Int.reduceDiv, Int.reduceToNat, Nat.add_zero, Nat.zero_add, List.contains_cons, List.contains_nil, Nat.reduceBEq, beq_self_eq_true, reduceCtorEq, and_true, true_and, and_false, false_and, not_true_eq_false, not_false_eq_true, Dv.mulOk_sz, z2, s4, z7, lds, List.take, pO, lO] <;> rfl) ?_
  refine seq_nx (τ' := [some (.lst false Ls), some (.int w), some (.tup [.int x, .int y]), some (.tup [.int p, .int q]), some (.int x), some (.int y), some (.int p), some (.int q), some (.lst true ((lds x y p q).map lO)), some (.lst true ([((x, y) : S2), (2 * x + p, 2 * y + q), (x + 2 * p, y + 2 * q), (p, q), (-x, -y)].map pO)), none, none, none, none, none, none]) (by simp (config := {decide := true}) only [Dv.get, Dv.xV, Dv.xC, Dv.frz, Dv.frzs, Dv.flat, Dv.flats, Dv.clean, Dv.cleans, Dv.frzSlot, Dv.frz1, Dv.frzAt, Dv.put, Dv.addD, Dv.subD, Dv.mulD, Dv.fdivD, Dv.modD, Dv.negD, Dv.x2, Dv.x1, Dv.xsN, Dv.xsC, Dv.xTup, Dv.xLst, Dv.xCall, Dv.asB, Dv.tOf, Dv.tNot, Dv.tAnd, Dv.tOr, Dv.xB, Dv.xIf, Dv.cmpI, Dv.ltD, Dv.leD, Dv.gtD, Dv.geD, Dv.xAnd, Dv.xOr, Dv.xNot, Dv.sN, Dv.sSeq, Dv.sSet, Dv.sRet, Dv.sRetV, Dv.sIf, Dv.sBk, Dv.sCt, Dv.gN, Dv.gsN, Dv.gsC, Dv.gT, Dv.fnD, Dv.ixD, Dv.slD, Dv.pN, Dv.pI, Dv.xSl, Dv.lenD', Dv.intD, Dv.maxD, Dv.minD, Dv.allD, Dv.anyD, Dv.allB, Dv.listD, Dv.xF, Dv.isiD, Dv.eqD, Dv.neD, Dv.isND, Dv.notND, Dv.isN2, Dv.notN2, Dv.sApp, Dv.itL, Dv.itR1, Dv.itR2, Dv.rngL, Dv.zipL, Dv.zipO, Dv.itZ, Dv.enuL, Dv.enuO, Dv.itEn, Dv.wipeD, Dv.keepD, Dv.tY, Dv.sAsg, Dv.sPar, Dv.sPar3, Dv.sAugI, Dv.sDrop, Dv.at_20, Dv.at_21, Dv.at_30, Dv.at_31, Dv.at_32, Dv.at_40, Dv.at_41, Dv.at_42, Dv.at_43, Dv.at_10, Dv.frzs_ints, Dv.cleans_ints, Dv.le_sLine, Dv.sh_non, Dv.sh_bl, Dv.sh_int, Dv.sh_tup, Dv.sh_lst, Dv.eqo_int, Dv.eqo_bl, Dv.eqo_tup, Dv.eqo_lst, Dv.eqos_nil, Dv.eqos_cons, List.all_cons, List.all_nil, Dv.beq_tt, Dv.beq_ff, Dv.beq_tf, Dv.beq_ft, List.getElem?_cons_zero, List.getElem?_cons_succ, List.getElem?_nil, List.set_cons_zero, List.set_cons_succ, List.set_nil, Option.bind_some, Option.bind_none, Option.map_some, Option.map_none, if_true, if_false, ↓reduceIte, decide_true, decide_false, Bool.false_eq_true, Bool.true_and, Bool.and_true, Bool.false_and, Bool.and_false, Bool.not_true, Bool.not_false, Bool.true_or, Bool.or_true, Bool.false_or, Bool.or_false, List.cons_append, List.nil_append, List.length_cons, List.length_nil, List.map_cons, List.map_nil, List.replicate_succ, List.replicate_zero, Nat.reduceAdd, Nat.reduceSub, Nat.reduceLT, Nat.reduceEqDiff, Nat.reduceLeDiff, Int.reduceAdd, Int.reduceSub, Int.reduceMul, Int.reduceNeg, Int.reduceLT, Int.reduceLE, Int.reduceEq, Int.reduceMod, Int.reduceDiv, Int.reduceToNat, Nat.add_zero, Nat.zero_add, List.contains_cons, List.contains_nil, Nat.reduceBEq, beq_self_eq_true, reduceCtorEq, and_true, true_and, and_false, false_and, not_true_eq_false, not_false_eq_true, Dv.mulOk_sz, z2, s5, z8, lds, List.take, pO, lO] <;> rfl) ?_
  obtain ⟨t9, ht9⟩ : ∃ t, (some (O.lst true ([((x, y) : S2), (2 * x + p, 2 * y + q), (x + 2 * p, y + 2 * q), (p, q), (-x, -y)].map pO))) = t := ⟨_, rfl⟩
  rw [ht9]
  have fG := frzs_lO (lds x y p q)
  have gj : at? ((lds x y p q).map lF) (j : Int) = some (lF r) := by
    have : ((lds x y p q).map lF)[j]? = some (lF r) := by rw [List.getElem?_map, hr]; rfl
    unfold at?
    rw [if_pos (by omega), Int.toNat_natCast]
    exact this
  obtain ⟨G, hG⟩ : ∃ G, (lds x y p q).map lO = G := ⟨_, rfl⟩
  obtain ⟨G', hG'⟩ : ∃ G, (lds x y p q).map lF = G := ⟨_, rfl⟩
  rw [hG, hG'] at fG
  rw [hG'] at gj
  rw [hG]
  have fr : frzs (r.map pO) = r.map pO := frzs_pO r
  obtain ⟨B, hB⟩ : ∃ B, r.map pO = B := ⟨_, rfl⟩
  have gj' : at? G' (j : Int) = some (.lst false B) := by rw [gj, ← hB]; rfl
  refine seq_nx (τ' := [some (.lst false Ls), some (.int w), some (.tup [.int x, .int y]), some (.tup [.int p, .int q]), some (.int x), some (.int y), some (.int p), some (.int q), some (.lst true G), t9, some (.tup [.int hx, .int hy]), none, none, none, none, none]) (by simp (config := {decide := true}) only [Dv.get, Dv.xV, Dv.xC, Dv.frz, Dv.frzs, Dv.flat, Dv.flats, Dv.clean, Dv.cleans, Dv.frzSlot, Dv.frz1, Dv.frzAt, Dv.put, Dv.addD, Dv.subD, Dv.mulD, Dv.fdivD, Dv.modD, Dv.negD, Dv.x2, Dv.x1, Dv.xsN, Dv.xsC, Dv.xTup, Dv.xLst, Dv.xCall, Dv.asB, Dv.tOf, Dv.tNot, Dv.tAnd, Dv.tOr, Dv.xB, Dv.xIf, Dv.cmpI, Dv.ltD, Dv.leD, Dv.gtD, Dv.geD, Dv.xAnd, Dv.xOr, Dv.xNot, Dv.sN, Dv.sSeq, Dv.sSet, Dv.sRet, Dv.sRetV, Dv.sIf, Dv.sBk, Dv.sCt, Dv.gN, Dv.gsN, Dv.gsC, Dv.gT, Dv.fnD, Dv.ixD, Dv.slD, Dv.pN, Dv.pI, Dv.xSl, Dv.lenD', Dv.intD, Dv.maxD, Dv.minD, Dv.allD, Dv.anyD, Dv.allB, Dv.listD, Dv.xF, Dv.isiD, Dv.eqD, Dv.neD, Dv.isND, Dv.notND, Dv.isN2, Dv.notN2, Dv.sApp, Dv.itL, Dv.itR1, Dv.itR2, Dv.rngL, Dv.zipL, Dv.zipO, Dv.itZ, Dv.enuL, Dv.enuO, Dv.itEn, Dv.wipeD, Dv.keepD, Dv.tY, Dv.sAsg, Dv.sPar, Dv.sPar3, Dv.sAugI, Dv.sDrop, Dv.at_20, Dv.at_21, Dv.at_30, Dv.at_31, Dv.at_32, Dv.at_40, Dv.at_41, Dv.at_42, Dv.at_43, Dv.at_10, Dv.frzs_ints, Dv.cleans_ints, Dv.le_sLine, Dv.sh_non, Dv.sh_bl, Dv.sh_int, Dv.sh_tup, Dv.sh_lst, Dv.eqo_int, Dv.eqo_bl, Dv.eqo_tup, Dv.eqo_lst, Dv.eqos_nil, Dv.eqos_cons, List.all_cons, List.all_nil, Dv.beq_tt, Dv.beq_ff, Dv.beq_tf, Dv.beq_ft, List.getElem?_cons_zero, List.getElem?_cons_succ, List.getElem?_nil, List.set_cons_zero, List.set_cons_succ, List.set_nil, Option.bind_some, Option.bind_none, Option.map_some, Option.map_none, if_true, if_false, ↓reduceIte, decide_true, decide_false, Bool.false_eq_true, Bool.true_and, Bool.and_true, Bool.false_and, Bool.and_false, Bool.not_true, Bool.not_false, Bool.true_or, Bool.or_true, Bool.false_or, Bool.or_false, List.cons_append, List.nil_append, List.length_cons, List.length_nil, List.map_cons, List.map_nil, List.replicate_succ, List.replicate_zero, Nat.reduceAdd, Nat.reduceSub, Nat.reduceLT, Nat.reduceEqDiff, Nat.reduceLeDiff, Int.reduceAdd, Int.reduceSub, Int.reduceMul, Int.reduceNeg, Int.reduceLT, Int.reduceLE, Int.reduceEq, Int.reduceMod, Int.reduceDiv, Int.reduceToNat, Nat.add_zero, Nat.zero_add, List.contains_cons, List.contains_nil, Nat.reduceBEq, beq_self_eq_true, reduceCtorEq, and_true, true_and, and_false, false_and, not_true_eq_false, not_false_eq_true, Dv.mulOk_sz, fL, i5, i6, d41, hhx, hhy]) ?_
  refine seq_nx (τ' := [some (.lst false Ls), some (.int w), some (.tup [.int x, .int y]), some (.tup [.int p, .int q]), some (.int x), some (.int y), some (.int p), some (.int q), some (.lst false G'), t9, some (.tup [.int hx, .int hy]), some (.lst false B), none, none, none, none]) (by simp (config := {decide := true}) only [Dv.get, Dv.xV, Dv.xC, Dv.frz, Dv.frzs, Dv.flat, Dv.flats, Dv.clean, Dv.cleans, Dv.frzSlot, Dv.frz1, Dv.frzAt, Dv.put, Dv.addD, Dv.subD, Dv.mulD, Dv.fdivD, Dv.modD, Dv.negD, Dv.x2, Dv.x1, Dv.xsN, Dv.xsC, Dv.xTup, Dv.xLst, Dv.xCall, Dv.asB, Dv.tOf, Dv.tNot, Dv.tAnd, Dv.tOr, Dv.xB, Dv.xIf, Dv.cmpI, Dv.ltD, Dv.leD, Dv.gtD, Dv.geD, Dv.xAnd, Dv.xOr, Dv.xNot, Dv.sN, Dv.sSeq, Dv.sSet, Dv.sRet, Dv.sRetV, Dv.sIf, Dv.sBk, Dv.sCt, Dv.gN, Dv.gsN, Dv.gsC, Dv.gT, Dv.fnD, Dv.ixD, Dv.slD, Dv.pN, Dv.pI, Dv.xSl, Dv.lenD', Dv.intD, Dv.maxD, Dv.minD, Dv.allD, Dv.anyD, Dv.allB, Dv.listD, Dv.xF, Dv.isiD, Dv.eqD, Dv.neD, Dv.isND, Dv.notND, Dv.isN2, Dv.notN2, Dv.sApp, Dv.itL, Dv.itR1, Dv.itR2, Dv.rngL, Dv.zipL, Dv.zipO, Dv.itZ, Dv.enuL, Dv.enuO, Dv.itEn, Dv.wipeD, Dv.keepD, Dv.tY, Dv.sAsg, Dv.sPar, Dv.sPar3, Dv.sAugI, Dv.sDrop, Dv.at_20, Dv.at_21, Dv.at_30, Dv.at_31, Dv.at_32, Dv.at_40, Dv.at_41, Dv.at_42, Dv.at_43, Dv.at_10, Dv.frzs_ints, Dv.cleans_ints, Dv.le_sLine, Dv.sh_non, Dv.sh_bl, Dv.sh_int, Dv.sh_tup, Dv.sh_lst, Dv.eqo_int, Dv.eqo_bl, Dv.eqo_tup, Dv.eqo_lst, Dv.eqos_nil, Dv.eqos_cons, List.all_cons, List.all_nil, Dv.beq_tt, Dv.beq_ff, Dv.beq_tf, Dv.beq_ft, List.getElem?_cons_zero, List.getElem?_cons_succ, List.getElem?_nil, List.set_cons_zero, List.set_cons_succ, List.set_nil, Option.bind_some, Option.bind_none, Option.map_some, Option.map_none, if_true, if_false, ↓reduceIte, decide_true, decide_false, Bool.false_eq_true, Bool.true_and, Bool.and_true, Bool.false_and, Bool.and_false, Bool.not_true, Bool.not_false, Bool.true_or, Bool.or_true, Bool.false_or, Bool.or_false, List.cons_append, List.nil_append, List.length_cons, List.length_nil, List.map_cons, List.map_nil, List.replicate_succ, List.replicate_zero, Nat.reduceAdd, Nat.reduceSub, Nat.reduceLT, Nat.reduceEqDiff, Nat.reduceLeDiff, Int.reduceAdd, Int.reduceSub, Int.reduceMul, Int.reduceNeg, Int.reduceLT, Int.reduceLE, Int.reduceEq, Int.reduceMod, Int.reduceDiv, Int.reduceToNat, Nat.add_zero, Nat.zero_add, List.contains_cons, List.contains_nil, Nat.reduceBEq, beq_self_eq_true, reduceCtorEq, and_true, true_and, and_false, false_and, not_true_eq_false, not_false_eq_true, Dv.mulOk_sz, fL, fG, i7, d6, hj, gj']) ?_
  refine seq_nx (τ' := [some (.lst false Ls), some (.int w), some (.tup [.int x, .int y]), some (.tup [.int p, .int q]), some (.int x), some (.int y), some (.int p), some (.int q), some (.lst false G'), t9, some (.tup [.int hx, .int hy]), some (.lst false B), some (.lst true []), none, none, none]) (by simp (config := {decide := true}) only [Dv.get, Dv.xV, Dv.xC, Dv.frz, Dv.frzs, Dv.flat, Dv.flats, Dv.clean, Dv.cleans, Dv.frzSlot, Dv.frz1, Dv.frzAt, Dv.put, Dv.addD, Dv.subD, Dv.mulD, Dv.fdivD, Dv.modD, Dv.negD, Dv.x2, Dv.x1, Dv.xsN, Dv.xsC, Dv.xTup, Dv.xLst, Dv.xCall, Dv.asB, Dv.tOf, Dv.tNot, Dv.tAnd, Dv.tOr, Dv.xB, Dv.xIf, Dv.cmpI, Dv.ltD, Dv.leD, Dv.gtD, Dv.geD, Dv.xAnd, Dv.xOr, Dv.xNot, Dv.sN, Dv.sSeq, Dv.sSet, Dv.sRet, Dv.sRetV, Dv.sIf, Dv.sBk, Dv.sCt, Dv.gN, Dv.gsN, Dv.gsC, Dv.gT, Dv.fnD, Dv.ixD, Dv.slD, Dv.pN, Dv.pI, Dv.xSl, Dv.lenD', Dv.intD, Dv.maxD, Dv.minD, Dv.allD, Dv.anyD, Dv.allB, Dv.listD, Dv.xF, Dv.isiD, Dv.eqD, Dv.neD, Dv.isND, Dv.notND, Dv.isN2, Dv.notN2, Dv.sApp, Dv.itL, Dv.itR1, Dv.itR2, Dv.rngL, Dv.zipL, Dv.zipO, Dv.itZ, Dv.enuL, Dv.enuO, Dv.itEn, Dv.wipeD, Dv.keepD, Dv.tY, Dv.sAsg, Dv.sPar, Dv.sPar3, Dv.sAugI, Dv.sDrop, Dv.at_20, Dv.at_21, Dv.at_30, Dv.at_31, Dv.at_32, Dv.at_40, Dv.at_41, Dv.at_42, Dv.at_43, Dv.at_10, Dv.frzs_ints, Dv.cleans_ints, Dv.le_sLine, Dv.sh_non, Dv.sh_bl, Dv.sh_int, Dv.sh_tup, Dv.sh_lst, Dv.eqo_int, Dv.eqo_bl, Dv.eqo_tup, Dv.eqo_lst, Dv.eqos_nil, Dv.eqos_cons, List.all_cons, List.all_nil, Dv.beq_tt, Dv.beq_ff, Dv.beq_tf, Dv.beq_ft, List.getElem?_cons_zero, List.getElem?_cons_succ, List.getElem?_nil, List.set_cons_zero, List.set_cons_succ, List.set_nil, Option.bind_some, Option.bind_none, Option.map_some, Option.map_none, if_true, if_false, ↓reduceIte, decide_true, decide_false, Bool.false_eq_true, Bool.true_and, Bool.and_true, Bool.false_and, Bool.and_false, Bool.not_true, Bool.not_false, Bool.true_or, Bool.or_true, Bool.false_or, Bool.or_false, List.cons_append, List.nil_append, List.length_cons, List.length_nil, List.map_cons, List.map_nil, List.replicate_succ, List.replicate_zero, Nat.reduceAdd, Nat.reduceSub, Nat.reduceLT, Nat.reduceEqDiff, Nat.reduceLeDiff, Int.reduceAdd, Int.reduceSub, Int.reduceMul, Int.reduceNeg, Int.reduceLT, Int.reduceLE, Int.reduceEq, Int.reduceMod, Int.reduceDiv, Int.reduceToNat, Nat.add_zero, Nat.zero_add, List.contains_cons, List.contains_nil, Nat.reduceBEq, beq_self_eq_true, reduceCtorEq, and_true, true_and, and_false, false_and, not_true_eq_false, not_false_eq_true, Dv.mulOk_sz, ]) ?_
  obtain ⟨h', o13, o14, hl⟩ := bnk_loop (some (.lst false Ls)) (some (.int w)) (some (.tup [.int x, .int y])) (some (.tup [.int p, .int q])) (some (.int x)) (some (.int y)) (some (.int p)) (some (.int q)) (some (.lst false G')) t9 (some (.lst false B)) none r (hx, hy) [] none none (by show 0 + r.length ≤ 1000; omega)
  rw [hB] at hl fr
  rw [List.nil_append] at hl
  have lT := trl_len (hx, hy) r
  have fT : frzs ((trl (hx, hy) r).map pO) = (trl (hx, hy) r).map pO := frzs_pO _
  have lT' : (((trl (hx, hy) r).map pO).length : Int) = (r.length : Int) := by rw [List.length_map, lT]
  have rp : (0 < (r.length : Int)) = True := eq_true (by omega)
  have c1 : cut ((trl (hx, hy) r).map pO) (some (n : Int)) none = ((trl (hx, hy) r).drop n).map pO := by rw [cut_map]; exact congrArg _ cut_from
  have c2 : cut ((trl (hx, hy) r).map pO) none (some (n : Int)) = ((trl (hx, hy) r).take n).map pO := by rw [cut_map]; exact congrArg _ cut_to
  have f1 : frzs (((trl (hx, hy) r).drop n).map pO) = ((trl (hx, hy) r).drop n).map pO := frzs_pO _
  have f2 : frzs (((trl (hx, hy) r).take n).map pO) = ((trl (hx, hy) r).take n).map pO := frzs_pO _
  have ls : ((((trl (hx, hy) r).drop n).map pO).length + (((trl (hx, hy) r).take n).map pO).length ≤ sLine) = True := le_sLine (by
    rw [List.length_map, List.length_map, List.length_drop, List.length_take, lT]; omega)
  have er : (rot n (trl (hx, hy) r)).map pO = ((trl (hx, hy) r).drop n).map pO ++ ((trl (hx, hy) r).take n).map pO := by unfold rot; rw [List.map_append]
  rw [er]
  obtain ⟨T, hT⟩ : ∃ T, (trl (hx, hy) r).map pO = T := ⟨_, rfl⟩
  obtain ⟨T1, hT1⟩ : ∃ T, ((trl (hx, hy) r).drop n).map pO = T := ⟨_, rfl⟩
  obtain ⟨T2, hT2⟩ : ∃ T, ((trl (hx, hy) r).take n).map pO = T := ⟨_, rfl⟩
  rw [hT] at hl fT lT' c1 c2
  rw [hT1] at c1 f1 ls ⊢
  rw [hT2] at c2 f2 ls ⊢
  refine seq_nx (τ' := [some (.lst false Ls), some (.int w), some (.tup [.int x, .int y]), some (.tup [.int p, .int q]), some (.int x), some (.int y), some (.int p), some (.int q), some (.lst false G'), t9, some (pO h'), some (.lst false B), some (.lst true T), o13, o14, none]) ?_ ?_
  · unfold sFor
    have ez : itL (xV 11) [some (.lst false Ls), some (.int w), some (.tup [.int x, .int y]), some (.tup [.int p, .int q]), some (.int x), some (.int y), some (.int p), some (.int q), some (.lst false G'), t9, some (.tup [.int hx, .int hy]), some (.lst false B), some (.lst true []), none, none, none] = some B := by simp (config := {decide := true}) only [Dv.get, Dv.xV, Dv.xC, Dv.frz, Dv.frzs, Dv.flat, Dv.flats, Dv.clean, Dv.cleans, Dv.frzSlot, Dv.frz1, Dv.frzAt, Dv.put, Dv.addD, Dv.subD, Dv.mulD, Dv.fdivD, Dv.modD, Dv.negD, Dv.x2, Dv.x1, Dv.xsN, Dv.xsC, Dv.xTup, Dv.xLst, Dv.xCall, Dv.asB, Dv.tOf, Dv.tNot, Dv.tAnd, Dv.tOr, Dv.xB, Dv.xIf, Dv.cmpI, Dv.ltD, Dv.leD, Dv.gtD, Dv.geD, Dv.xAnd, Dv.xOr, Dv.xNot, Dv.sN, Dv.sSeq, Dv.sSet, Dv.sRet, Dv.sRetV, Dv.sIf, Dv.sBk, Dv.sCt, Dv.gN, Dv.gsN, Dv.gsC, Dv.gT, Dv.fnD, Dv.ixD, Dv.slD, Dv.pN, Dv.pI, Dv.xSl, Dv.lenD', Dv.intD, Dv.maxD, Dv.minD, Dv.allD, Dv.anyD, Dv.allB, Dv.listD, Dv.xF, Dv.isiD, Dv.eqD, Dv.neD, Dv.isND, Dv.notND, Dv.isN2, Dv.notN2, Dv.sApp, Dv.itL, Dv.itR1, Dv.itR2, Dv.rngL, Dv.zipL, Dv.zipO, Dv.itZ, Dv.enuL, Dv.enuO, Dv.itEn, Dv.wipeD, Dv.keepD, Dv.tY, Dv.sAsg, Dv.sPar, Dv.sPar3, Dv.sAugI, Dv.sDrop, Dv.at_20, Dv.at_21, Dv.at_30, Dv.at_31, Dv.at_32, Dv.at_40, Dv.at_41, Dv.at_42, Dv.at_43, Dv.at_10, Dv.frzs_ints, Dv.cleans_ints, Dv.le_sLine, Dv.sh_non, Dv.sh_bl, Dv.sh_int, Dv.sh_tup, Dv.sh_lst, Dv.eqo_int, Dv.eqo_bl, Dv.eqo_tup, Dv.eqo_lst, Dv.eqos_nil, Dv.eqos_cons, List.all_cons, List.all_nil, Dv.beq_tt, Dv.beq_ff, Dv.beq_tf, Dv.beq_ft, List.getElem?_cons_zero, List.getElem?_cons_succ, List.getElem?_nil, List.set_cons_zero, List.set_cons_succ, List.set_nil, Option.bind_some, Option.bind_none, Option.map_some, Option.map_none, if_true, if_false, ↓reduceIte, decide_true, decide_false, Bool.false_eq_true, Bool.true_and, Bool.and_true, Bool.false_and, Bool.and_false, Bool.not_true, Bool.not_false, Bool.true_or, Bool.or_true, Bool.false_or, Bool.or_false, List.cons_append, List.nil_append, List.length_cons, List.length_nil, List.map_cons, List.map_nil, List.replicate_succ, List.replicate_zero, Nat.reduceAdd, Nat.reduceSub, Nat.reduceLT, Nat.reduceEqDiff, Nat.reduceLeDiff, Int.reduceAdd, Int.reduceSub, Int.reduceMul, Int.reduceNeg, Int.reduceLT, Int.reduceLE, Int.reduceEq, Int.reduceMod, Int.reduceDiv, Int.reduceToNat, Nat.add_zero, Nat.zero_add, List.contains_cons, List.contains_nil, Nat.reduceBEq, beq_self_eq_true, reduceCtorEq, and_true, true_and, and_false, false_and, not_true_eq_false, not_false_eq_true, Dv.mulOk_sz, fr]
    have ef : frzAt [11] [some (.lst false Ls), some (.int w), some (.tup [.int x, .int y]), some (.tup [.int p, .int q]), some (.int x), some (.int y), some (.int p), some (.int q), some (.lst false G'), t9, some (.tup [.int hx, .int hy]), some (.lst false B), some (.lst true []), none, none, none] = [some (.lst false Ls), some (.int w), some (.tup [.int x, .int y]), some (.tup [.int p, .int q]), some (.int x), some (.int y), some (.int p), some (.int q), some (.lst false G'), t9, some (.tup [.int hx, .int hy]), some (.lst false B), some (.lst true []), none, none, none] := by simp (config := {decide := true}) only [Dv.get, Dv.xV, Dv.xC, Dv.frz, Dv.frzs, Dv.flat, Dv.flats, Dv.clean, Dv.cleans, Dv.frzSlot, Dv.frz1, Dv.frzAt, Dv.put, Dv.addD, Dv.subD, Dv.mulD, Dv.fdivD, Dv.modD, Dv.negD, Dv.x2, Dv.x1, Dv.xsN, Dv.xsC, Dv.xTup, Dv.xLst, Dv.xCall, Dv.asB, Dv.tOf, Dv.tNot, Dv.tAnd, Dv.tOr, Dv.xB, Dv.xIf, Dv.cmpI, Dv.ltD, Dv.leD, Dv.gtD, Dv.geD, Dv.xAnd, Dv.xOr, Dv.xNot, Dv.sN, Dv.sSeq, Dv.sSet, Dv.sRet, Dv.sRetV, Dv.sIf, Dv.sBk, Dv.sCt, Dv.gN, Dv.gsN, Dv.gsC, Dv.gT, Dv.fnD, Dv.ixD, Dv.slD, Dv.pN, Dv.pI, Dv.xSl, Dv.lenD', Dv.intD, Dv.maxD, Dv.minD, Dv.allD, Dv.anyD, Dv.allB, Dv.listD, Dv.xF, Dv.isiD, Dv.eqD, Dv.neD, Dv.isND, Dv.notND, Dv.isN2, Dv.notN2, Dv.sApp, Dv.itL, Dv.itR1, Dv.itR2, Dv.rngL, Dv.zipL, Dv.zipO, Dv.itZ, Dv.enuL, Dv.enuO, Dv.itEn, Dv.wipeD, Dv.keepD, Dv.tY, Dv.sAsg, Dv.sPar, Dv.sPar3, Dv.sAugI, Dv.sDrop, Dv.at_20, Dv.at_21, Dv.at_30, Dv.at_31, Dv.at_32, Dv.at_40, Dv.at_41, Dv.at_42, Dv.at_43, Dv.at_10, Dv.frzs_ints, Dv.cleans_ints, Dv.le_sLine, Dv.sh_non, Dv.sh_bl, Dv.sh_int, Dv.sh_tup, Dv.sh_lst, Dv.eqo_int, Dv.eqo_bl, Dv.eqo_tup, Dv.eqo_lst, Dv.eqos_nil, Dv.eqos_cons, List.all_cons, List.all_nil, Dv.beq_tt, Dv.beq_ff, Dv.beq_tf, Dv.beq_ft, List.getElem?_cons_zero, List.getElem?_cons_succ, List.getElem?_nil, List.set_cons_zero, List.set_cons_succ, List.set_nil, Option.bind_some, Option.bind_none, Option.map_some, Option.map_none, if_true, if_false, ↓reduceIte, decide_true, decide_false, Bool.false_eq_true, Bool.true_and, Bool.and_true, Bool.false_and, Bool.and_false, Bool.not_true, Bool.not_false, Bool.true_or, Bool.or_true, Bool.false_or, Bool.or_false, List.cons_append, List.nil_append, List.length_cons, List.length_nil, List.map_cons, List.map_nil, List.replicate_succ, List.replicate_zero, Nat.reduceAdd, Nat.reduceSub, Nat.reduceLT, Nat.reduceEqDiff, Nat.reduceLeDiff, Int.reduceAdd, Int.reduceSub, Int.reduceMul, Int.reduceNeg, Int.reduceLT, Int.reduceLE, Int.reduceEq, Int.reduceMod, Int.reduceDiv, Int.reduceToNat, Nat.add_zero, Nat.zero_add, List.contains_cons, List.contains_nil, Nat.reduceBEq, beq_self_eq_true, reduceCtorEq, and_true, true_and, and_false, false_and, not_true_eq_false, not_false_eq_true, Dv.mulOk_sz, fr]
    rw [ez, Option.bind_some, fr, ef]
    exact hl
  · refine seq_nx (τ' := [some (.lst false Ls), some (.int w), some (.tup [.int x, .int y]), some (.tup [.int p, .int q]), some (.int x), some (.int y), some (.int p), some (.int q), some (.lst false G'), t9, some (pO h'), some (.lst false B), some (.lst true T), o13, o14, some (.int n)]) (by simp (config := {decide := true}) only [Dv.get, Dv.xV, Dv.xC, Dv.frz, Dv.frzs, Dv.flat, Dv.flats, Dv.clean, Dv.cleans, Dv.frzSlot, Dv.frz1, Dv.frzAt, Dv.put, Dv.addD, Dv.subD, Dv.mulD, Dv.fdivD, Dv.modD, Dv.negD, Dv.x2, Dv.x1, Dv.xsN, Dv.xsC, Dv.xTup, Dv.xLst, Dv.xCall, Dv.asB, Dv.tOf, Dv.tNot, Dv.tAnd, Dv.tOr, Dv.xB, Dv.xIf, Dv.cmpI, Dv.ltD, Dv.leD, Dv.gtD, Dv.geD, Dv.xAnd, Dv.xOr, Dv.xNot, Dv.sN, Dv.sSeq, Dv.sSet, Dv.sRet, Dv.sRetV, Dv.sIf, Dv.sBk, Dv.sCt, Dv.gN, Dv.gsN, Dv.gsC, Dv.gT, Dv.fnD, Dv.ixD, Dv.slD, Dv.pN, Dv.pI, Dv.xSl, Dv.lenD', Dv.intD, Dv.maxD, Dv.minD, Dv.allD, Dv.anyD, Dv.allB, Dv.listD, Dv.xF, Dv.isiD, Dv.eqD, Dv.neD, Dv.isND, Dv.notND, Dv.isN2, Dv.notN2, Dv.sApp, Dv.itL, Dv.itR1, Dv.itR2, Dv.rngL, Dv.zipL, Dv.zipO, Dv.itZ, Dv.enuL, Dv.enuO, Dv.itEn, Dv.wipeD, Dv.keepD, Dv.tY, Dv.sAsg, Dv.sPar, Dv.sPar3, Dv.sAugI, Dv.sDrop, Dv.at_20, Dv.at_21, Dv.at_30, Dv.at_31, Dv.at_32, Dv.at_40, Dv.at_41, Dv.at_42, Dv.at_43, Dv.at_10, Dv.frzs_ints, Dv.cleans_ints, Dv.le_sLine, Dv.sh_non, Dv.sh_bl, Dv.sh_int, Dv.sh_tup, Dv.sh_lst, Dv.eqo_int, Dv.eqo_bl, Dv.eqo_tup, Dv.eqo_lst, Dv.eqos_nil, Dv.eqos_cons, List.all_cons, List.all_nil, Dv.beq_tt, Dv.beq_ff, Dv.beq_tf, Dv.beq_ft, List.getElem?_cons_zero, List.getElem?_cons_succ, List.getElem?_nil, List.set_cons_zero, List.set_cons_succ, List.set_nil, Option.bind_some, Option.bind_none, Option.map_some, Option.map_none, if_true, if_false, ↓reduceIte, decide_true, decide_false, Bool.false_eq_true, Bool.true_and, Bool.and_true, Bool.false_and, Bool.and_false, Bool.not_true, Bool.not_false, Bool.true_or, Bool.or_true, Bool.false_or, Bool.or_false, List.cons_append, List.nil_append, List.length_cons, List.length_nil, List.map_cons, List.map_nil, List.replicate_succ, List.replicate_zero, Nat.reduceAdd, Nat.reduceSub, Nat.reduceLT, Nat.reduceEqDiff, Nat.reduceLeDiff, Int.reduceAdd, Int.reduceSub, Int.reduceMul, Int.reduceNeg, Int.reduceLT, Int.reduceLE, Int.reduceEq, Int.reduceMod, Int.reduceDiv, Int.reduceToNat, Nat.add_zero, Nat.zero_add, List.contains_cons, List.contains_nil, Nat.reduceBEq, beq_self_eq_true, reduceCtorEq, and_true, true_and, and_false, false_and, not_true_eq_false, not_false_eq_true, Dv.mulOk_sz, fL, fT, i8, lT', rp, hn]) ?_
    have e1 : xSl (xV 12) (pI (xV 15)) pN [some (.lst false Ls), some (.int w), some (.tup [.int x, .int y]), some (.tup [.int p, .int q]), some (.int x), some (.int y), some (.int p), some (.int q), some (.lst false G'), t9, some (pO h'), some (.lst false B), some (.lst true T), o13, o14, some (.int n)] = some (.lst true T1) := by
      show some (O.lst true (cut (frzs T) (some (n : Int)) none)) = _
      rw [fT, c1]
    have e2 : xSl (xV 12) pN (pI (xV 15)) [some (.lst false Ls), some (.int w), some (.tup [.int x, .int y]), some (.tup [.int p, .int q]), some (.int x), some (.int y), some (.int p), some (.int q), some (.lst false G'), t9, some (pO h'), some (.lst false B), some (.lst true T), o13, o14, some (.int n)] = some (.lst true T2) := by
      show some (O.lst true (cut (frzs T) none (some (n : Int)))) = _
      rw [fT, c2]
    unfold sRet x2
    rw [e1, e2]
    show (Option.bind (if T1.length + T2.length ≤ sLine then some (O.lst true (frzs T1 ++ frzs T2)) else none) fun o => some (Fl.rt o)) = _
    rw [if_pos (of_eq_true ls), f1, f2]
    rfl
end Sm

end
section
set_option Elab.async false
set_option linter.all false
set_option maxRecDepth 100000
/-! a drawn bank is round: of each stretch all others lie to the left -/
namespace Sm
open Dv
/-- the shapes in the two directions' own numbers -/
def shs : List (List S2) :=
  [[(1, 0), (-1, 1), (0, -1)],
   [(1, 0), (0, 1), (-1, 0), (0, -1)],
   [(2, 0), (0, 1), (-1, 1), (-1, 0), (0, -2)],
   [(1, 0), (1, 1), (0, 1), (-1, 0), (-1, -1), (0, -1)],
   [(1, 0), (2, 1), (1, 2), (0, 1), (-1, 0), (-2, -1), (-1, -3)],
   [(1, 0), (2, 1), (1, 2), (0, 1), (-1, 0), (-2, -1), (-1, -2), (0, -1)]]
def lin (x y p q : Int) (c : S2) : S2 := (c.1 * x + c.2 * p, c.1 * y + c.2 * q)
def put2 (h : S2) (c : S2) : S2 := (h.1 + c.1, h.2 + c.2)
theorem lds_shs (x y p q : Int) {r : List S2} (h : r ∈ lds x y p q) : ∃ c ∈ shs, r = c.map (lin x y p q) := by
  unfold lds at h
  unfold shs
  simp only [List.mem_cons, List.not_mem_nil, or_false] at h
  rcases h with rfl | rfl | rfl | rfl | rfl | rfl
  · exact ⟨_, .head _, by simp [lin]; omega⟩
  · exact ⟨_, .tail _ (.head _), by simp [lin]⟩
  · exact ⟨_, .tail _ (.tail _ (.head _)), by simp [lin]; omega⟩
  · exact ⟨_, .tail _ (.tail _ (.tail _ (.head _))), by simp [lin]; omega⟩
  · exact ⟨_, .tail _ (.tail _ (.tail _ (.tail _ (.head _)))), by simp [lin]; omega⟩
  · exact ⟨_, .tail _ (.tail _ (.tail _ (.tail _ (.tail _ (.head _))))), by simp [lin]; omega⟩
theorem trl_lin (x y p q : Int) : ∀ (h o : S2) (c : List S2), trl (put2 h (lin x y p q o)) (c.map (lin x y p q)) = (trl o c).map fun d => put2 h (lin x y p q d)
  | _, _, [] => rfl
  | h, o, d :: c => by
    show put2 h (lin x y p q o) :: trl _ (c.map _) = put2 h (lin x y p q o) :: (trl (o.1 + d.1, o.2 + d.2) c).map _
    rw [← trl_lin x y p q h (o.1 + d.1, o.2 + d.2) c]
    have : ((put2 h (lin x y p q o)).1 + (lin x y p q d).1, (put2 h (lin x y p q o)).2 + (lin x y p q d).2) = put2 h (lin x y p q (o.1 + d.1, o.2 + d.2)) := by
      unfold put2 lin
      simp only [Int.add_mul]
      ext <;> simp only <;> omega
    rw [this]
def crs3 (a b c : S2) : Int := (b.1 - a.1) * (c.2 - a.2) - (b.2 - a.2) * (c.1 - a.1)
theorem crs_lin (x y p q : Int) (h a b c : S2) : crs3 (put2 h (lin x y p q a)) (put2 h (lin x y p q b)) (put2 h (lin x y p q c)) = crs3 a b c * (x * q - y * p) := by
  unfold crs3 put2 lin; grind
/-- round: each stretch has all others strictly to its left; no stretch is nought -/
def Rnd (B : List S2) : Prop := ∀ i a b, B[i]? = some a → B[(i + 1) % B.length]? = some b → a ≠ b ∧ ∀ c ∈ B, c = a ∨ c = b ∨ 0 < crs3 a b c
instance : DecidableEq S2 := inferInstanceAs (DecidableEq (Int × Int))
def rndB (B : List S2) : Bool := (List.range B.length).all fun i => match B[i]?, B[(i + 1) % B.length]? with
  | some a, some b => decide (a ≠ b) && B.all fun c => decide (c = a) || (decide (c = b) || decide (0 < crs3 a b c))
  | _, _ => true
theorem rnd_of {B : List S2} (h : rndB B = true) : Rnd B := fun i a b ha hb => by
  have li : i < B.length := (List.getElem?_eq_some_iff.mp ha).1
  have := List.all_eq_true.mp h i (List.mem_range.mpr li)
  simp only [ha, hb, Bool.and_eq_true] at this
  refine ⟨of_decide_eq_true this.1, fun c hc => ?_⟩
  have := List.all_eq_true.mp this.2 c hc
  simp only [Bool.or_eq_true, decide_eq_true_eq] at this
  exact this
theorem shs_rnd : ∀ c ∈ shs, Rnd (trl (0, 0) c) := by
  have : shs.all (fun c => rndB (trl (0, 0) c)) = true := by decide +kernel
  exact fun c hc => rnd_of (List.all_eq_true.mp this c hc)
theorem rnd_map {B : List S2} (h : Rnd B) {x y p q : Int} (D : 0 < x * q - y * p) (o : S2) : Rnd (B.map fun d => put2 o (lin x y p q d)) := by
  intro i a b ha hb
  rw [List.length_map] at hb
  rw [List.getElem?_map] at ha hb
  cases ea : B[i]? with
  | none => rw [ea] at ha; cases ha
  | some a' =>
    cases eb : B[(i + 1) % B.length]? with
    | none => rw [eb] at hb; cases hb
    | some b' =>
      rw [ea] at ha
      rw [eb] at hb
      cases ha; cases hb
      obtain ⟨h1, h2⟩ := h i a' b' ea eb
      have pos : ∀ c ∈ B, 0 < crs3 a' b' c → 0 < crs3 (put2 o (lin x y p q a')) (put2 o (lin x y p q b')) (put2 o (lin x y p q c)) := fun c _ k => by
        rw [crs_lin]; exact Int.mul_pos k D
      refine ⟨fun e => h1 ?_, fun c hc => ?_⟩
      · -- the two directions are not along each other
        have e1 := congrArg Prod.fst e
        have e2 := congrArg Prod.snd e
        unfold put2 lin at e1 e2
        simp only at e1 e2
        have z1 : (b'.1 - a'.1) * (x * q - y * p) = 0 := by
          have : (b'.1 - a'.1) * (x * q - y * p) = ((b'.1 * x + b'.2 * p) - (a'.1 * x + a'.2 * p)) * q - ((b'.1 * y + b'.2 * q) - (a'.1 * y + a'.2 * q)) * p := by grind
          rw [this, show (b'.1 * x + b'.2 * p) - (a'.1 * x + a'.2 * p) = 0 by omega, show (b'.1 * y + b'.2 * q) - (a'.1 * y + a'.2 * q) = 0 by omega]; grind
        have z2 : (b'.2 - a'.2) * (x * q - y * p) = 0 := by
          have : (b'.2 - a'.2) * (x * q - y * p) = ((b'.1 * y + b'.2 * q) - (a'.1 * y + a'.2 * q)) * x - ((b'.1 * x + b'.2 * p) - (a'.1 * x + a'.2 * p)) * y := by grind
          rw [this, show (b'.1 * x + b'.2 * p) - (a'.1 * x + a'.2 * p) = 0 by omega, show (b'.1 * y + b'.2 * q) - (a'.1 * y + a'.2 * q) = 0 by omega]; grind
        have y1 := (Int.mul_eq_zero.mp z1).resolve_right (by omega)
        have y2 := (Int.mul_eq_zero.mp z2).resolve_right (by omega)
        exact Prod.ext (by omega) (by omega)
      · obtain ⟨c', hc', rfl⟩ := List.mem_map.mp hc
        rcases h2 c' hc' with rfl | rfl | k
        · exact .inl rfl
        · exact .inr (.inl rfl)
        · exact .inr (.inr (pos c' hc' k))
theorem rot_at {B : List S2} {n : Nat} (hn : n ≤ B.length) {i : Nat} (hi : i < B.length) : (rot n B)[i]? = B[(n + i) % B.length]? := by
  unfold rot
  by_cases c : i < B.length - n
  · rw [List.getElem?_append_left (by rw [List.length_drop]; exact c), List.getElem?_drop, Nat.mod_eq_of_lt (by omega)]
  · rw [List.getElem?_append_right (by rw [List.length_drop]; omega), List.length_drop, List.getElem?_take_of_lt (by omega)]
    have : (n + i) % B.length = i - (B.length - n) := by
      rw [Nat.mod_eq_sub_mod (by omega), Nat.mod_eq_of_lt (by omega)]; omega
    rw [this]
theorem rot_len {B : List S2} {n : Nat} (hn : n ≤ B.length) : (rot n B).length = B.length := by
  unfold rot
  rw [List.length_append, List.length_drop, List.length_take]; omega
theorem rnd_rot {B : List S2} (h : Rnd B) {n : Nat} (hn : n ≤ B.length) : Rnd (rot n B) := by
  intro i a b ha hb
  have li : i < B.length := by
    have := (List.getElem?_eq_some_iff.mp ha).1
    rwa [rot_len hn] at this
  rw [rot_len hn] at hb
  have lj : (i + 1) % B.length < B.length := Nat.mod_lt _ (by omega)
  rw [rot_at hn li] at ha
  rw [rot_at hn lj] at hb
  have e : (n + (i + 1) % B.length) % B.length = ((n + i) % B.length + 1) % B.length := by
    rw [Nat.add_mod_mod, Nat.mod_add_mod, Nat.add_assoc]
  rw [e] at hb
  obtain ⟨h1, h2⟩ := h _ a b ha hb
  refine ⟨h1, fun c hc => h2 c ?_⟩
  unfold rot at hc
  rcases List.mem_append.mp hc with k | k
  · exact List.mem_of_mem_drop k
  · exact List.mem_of_mem_take k
end Sm

end
section
set_option Elab.async false
set_option linter.all false
set_option maxRecDepth 100000
namespace Sm
open Dv
/-! gcd -/
def gcdZ (a b : Int) : Int := (Int.gcd a b : Int)
theorem gcd_while (k : Nat) : ∀ (n m : Nat), m ≤ k → sWhl (tOf (x2 gtD (xV 1) (xC (.int 0)))) (sPar [1, 0, 1] 0 1 (xsC (xV 1) (xsC (x2 modD (xV 0) (xV 1)) (xsN)))) [some (.int n), some (.int m)] = some (.nx [some (.int (Nat.gcd n m : Nat)), some (.int 0)]) := by
  induction k with
  | zero =>
    intro n m h
    have : m = 0 := by omega
    subst this
    rw [Nat.gcd_zero_right]
    exact sWhl_end rfl
  | succ k ih =>
    intro n m h
    by_cases h0 : m = 0
    · subst h0
      rw [Nat.gcd_zero_right]
      exact sWhl_end rfl
    · have hp : 0 < m := by omega
      have hp' : (0 : Int) < (m : Int) := by omega
      have hm : n % m ≤ k := by have := Nat.mod_lt n hp; omega
      refine sWhl_turn (τ' := [some (.int m), some (.int (n % m : Nat))]) ?_ ?_ ?_
      · simp only [Dv.get, Dv.xV, Dv.xC, Dv.frz, Dv.frzs, Dv.flat, Dv.flats, Dv.clean, Dv.cleans, Dv.frzSlot, Dv.frz1, Dv.frzAt, Dv.put, Dv.addD, Dv.subD, Dv.mulD, Dv.fdivD, Dv.modD, Dv.negD, Dv.x2, Dv.x1, Dv.xsN, Dv.xsC, Dv.xTup, Dv.xLst, Dv.xCall, Dv.asB, Dv.tOf, Dv.tNot, Dv.tAnd, Dv.tOr, Dv.xB, Dv.xIf, Dv.cmpI, Dv.ltD, Dv.leD, Dv.gtD, Dv.geD, Dv.xAnd, Dv.xOr, Dv.xNot, Dv.sN, Dv.sSeq, Dv.sSet, Dv.sRet, Dv.sRetV, Dv.sIf, Dv.sBk, Dv.sCt, Dv.gN, Dv.gsN, Dv.gsC, Dv.gT, Dv.fnD, Dv.ixD, Dv.slD, Dv.pN, Dv.pI, Dv.xSl, Dv.lenD', Dv.intD, Dv.maxD, Dv.minD, Dv.allD, Dv.anyD, Dv.allB, Dv.listD, Dv.xF, Dv.isiD, Dv.eqD, Dv.neD, Dv.isND, Dv.notND, Dv.isN2, Dv.notN2, Dv.sApp, Dv.itL, Dv.itR1, Dv.itR2, Dv.rngL, Dv.zipL, Dv.zipO, Dv.itZ, Dv.enuL, Dv.enuO, Dv.itEn, Dv.wipeD, Dv.keepD, Dv.tY, Dv.sAsg, Dv.sPar, Dv.sPar3, Dv.sAugI, Dv.sDrop, Dv.le_sLine, Dv.sh_non, Dv.sh_bl, Dv.sh_int, Dv.sh_tup, Dv.sh_lst, Dv.eqo_int, Dv.eqo_bl, Dv.eqo_tup, Dv.eqo_lst, Dv.eqos_nil, Dv.eqos_cons, List.all_cons, List.all_nil, Dv.beq_tt, Dv.beq_ff, Dv.beq_tf, Dv.beq_ft, List.getElem?_cons_zero, List.getElem?_cons_succ, List.getElem?_nil, List.set_cons_zero, List.set_cons_succ, List.set_nil, Option.bind_some, Option.bind_none, Option.map_some, Option.map_none, if_true, if_false, ↓reduceIte, decide_true, decide_false, Bool.false_eq_true, Bool.true_and, Bool.and_true, Bool.false_and, Bool.and_false, Bool.not_true, Bool.not_false, Bool.true_or, Bool.or_true, Bool.false_or, Bool.or_false, List.cons_append, List.nil_append, List.length_cons, List.length_nil, List.map_cons, List.map_nil, List.replicate_succ, List.replicate_zero, Nat.reduceAdd, Nat.reduceSub, Nat.reduceLT, Nat.reduceEqDiff, Nat.reduceLeDiff, Int.reduceAdd, Int.reduceSub, Int.reduceMul, Int.reduceNeg, Int.reduceLT, Int.reduceLE, Int.reduceEq, Int.reduceMod, Int.reduceDiv, Int.reduceToNat, Nat.add_zero, Nat.zero_add, List.contains_cons, List.contains_nil, Nat.reduceBEq, beq_self_eq_true, reduceCtorEq, and_true, true_and, and_false, false_and, not_true_eq_false, not_false_eq_true, hp']
      · have e : ((n : Int) % (m : Int)) = ((n % m : Nat) : Int) := by omega
        simp only [Dv.get, Dv.xV, Dv.xC, Dv.frz, Dv.frzs, Dv.flat, Dv.flats, Dv.clean, Dv.cleans, Dv.frzSlot, Dv.frz1, Dv.frzAt, Dv.put, Dv.addD, Dv.subD, Dv.mulD, Dv.fdivD, Dv.modD, Dv.negD, Dv.x2, Dv.x1, Dv.xsN, Dv.xsC, Dv.xTup, Dv.xLst, Dv.xCall, Dv.asB, Dv.tOf, Dv.tNot, Dv.tAnd, Dv.tOr, Dv.xB, Dv.xIf, Dv.cmpI, Dv.ltD, Dv.leD, Dv.gtD, Dv.geD, Dv.xAnd, Dv.xOr, Dv.xNot, Dv.sN, Dv.sSeq, Dv.sSet, Dv.sRet, Dv.sRetV, Dv.sIf, Dv.sBk, Dv.sCt, Dv.gN, Dv.gsN, Dv.gsC, Dv.gT, Dv.fnD, Dv.ixD, Dv.slD, Dv.pN, Dv.pI, Dv.xSl, Dv.lenD', Dv.intD, Dv.maxD, Dv.minD, Dv.allD, Dv.anyD, Dv.allB, Dv.listD, Dv.xF, Dv.isiD, Dv.eqD, Dv.neD, Dv.isND, Dv.notND, Dv.isN2, Dv.notN2, Dv.sApp, Dv.itL, Dv.itR1, Dv.itR2, Dv.rngL, Dv.zipL, Dv.zipO, Dv.itZ, Dv.enuL, Dv.enuO, Dv.itEn, Dv.wipeD, Dv.keepD, Dv.tY, Dv.sAsg, Dv.sPar, Dv.sPar3, Dv.sAugI, Dv.sDrop, Dv.le_sLine, Dv.sh_non, Dv.sh_bl, Dv.sh_int, Dv.sh_tup, Dv.sh_lst, Dv.eqo_int, Dv.eqo_bl, Dv.eqo_tup, Dv.eqo_lst, Dv.eqos_nil, Dv.eqos_cons, List.all_cons, List.all_nil, Dv.beq_tt, Dv.beq_ff, Dv.beq_tf, Dv.beq_ft, List.getElem?_cons_zero, List.getElem?_cons_succ, List.getElem?_nil, List.set_cons_zero, List.set_cons_succ, List.set_nil, Option.bind_some, Option.bind_none, Option.map_some, Option.map_none, if_true, if_false, ↓reduceIte, decide_true, decide_false, Bool.false_eq_true, Bool.true_and, Bool.and_true, Bool.false_and, Bool.and_false, Bool.not_true, Bool.not_false, Bool.true_or, Bool.or_true, Bool.false_or, Bool.or_false, List.cons_append, List.nil_append, List.length_cons, List.length_nil, List.map_cons, List.map_nil, List.replicate_succ, List.replicate_zero, Nat.reduceAdd, Nat.reduceSub, Nat.reduceLT, Nat.reduceEqDiff, Nat.reduceLeDiff, Int.reduceAdd, Int.reduceSub, Int.reduceMul, Int.reduceNeg, Int.reduceLT, Int.reduceLE, Int.reduceEq, Int.reduceMod, Int.reduceDiv, Int.reduceToNat, Nat.add_zero, Nat.zero_add, List.contains_cons, List.contains_nil, Nat.reduceBEq, beq_self_eq_true, reduceCtorEq, and_true, true_and, and_false, false_and, not_true_eq_false, not_false_eq_true, hp', e]
      · rw [ih m (n % m) hm, Nat.gcd_comm n m, Nat.gcd_rec m n, Nat.gcd_comm (n % m) m]
theorem abs_nat (a : Int) : (if a < 0 then -a else a) = (a.natAbs : Int) := by split <;> omega
end Sm

end
section
set_option Elab.async false
set_option linter.all false
set_option maxRecDepth 100000
namespace Sm
open Dv
theorem gcd_pos {a b : Int} (h : b ≠ 0) : 0 < gcdZ a b := by
  unfold gcdZ
  have := Int.gcd_pos_of_ne_zero_right a h
  omega
theorem gcd_dvd_l (a b : Int) : gcdZ a b ∣ a := Int.gcd_dvd_left ..
theorem gcd_dvd_r (a b : Int) : gcdZ a b ∣ b := Int.gcd_dvd_right ..
theorem gcd_le {a b : Int} (h : b ≠ 0) : (gcdZ a b).natAbs ≤ b.natAbs := by
  unfold gcdZ
  rw [Int.natAbs_natCast]
  exact Nat.le_of_dvd (by omega) (Int.natAbs_dvd_natAbs.mpr (Int.gcd_dvd_right ..))
/-- the lowest terms of two numbers, the second one above nought -/
theorem low_terms {t b : Int} (hb : 0 < b) : ∃ p q, t / gcdZ t b = p ∧ b / gcdZ t b = q ∧ 1 ≤ q ∧ gcdZ p q = 1 ∧ t = gcdZ t b * p ∧ b = gcdZ t b * q := by
  have hg := gcd_pos (a := t) (b := b) (by omega)
  have h1 := Int.mul_ediv_cancel' (gcd_dvd_l t b)
  have h2 := Int.mul_ediv_cancel' (gcd_dvd_r t b)
  refine ⟨_, _, rfl, rfl, ?_, ?_, h1.symm, h2.symm⟩
  · have : 0 < b / gcdZ t b := by
      rcases Int.lt_or_le 0 (b / gcdZ t b) with h | h
      · exact h
      · have := Int.mul_nonpos_of_nonneg_of_nonpos (Int.le_of_lt hg) h
        omega
    omega
  · have := Int.gcd_ediv_gcd_ediv_gcd (i := t) (j := b) (by unfold gcdZ at hg; omega)
    show ((Int.gcd (t / (Int.gcd t b : Int)) (b / (Int.gcd t b : Int)) : Nat) : Int) = 1
    rw [this]; rfl
theorem eq_of_mul {g a b : Int} (h : g ≠ 0) (e : g * a = g * b) : a = b := Int.eq_of_mul_eq_mul_left h e
end Sm

end
section
set_option Elab.async false
set_option linter.all false
set_option maxRecDepth 100000
namespace Sm
open Dv

/-! three numbers -/
abbrev gcd3 (x y w : Int) : Int := gcdZ (gcdZ x y) w
theorem gcdZ_nonneg (a b : Int) : 0 ≤ gcdZ a b := by unfold gcdZ; omega
theorem gcdZ_mul {g : Int} (a b : Int) (h : 0 ≤ g) : gcdZ (g * a) (g * b) = g * gcdZ a b := by
  unfold gcdZ
  rw [Int.gcd_mul_left, Int.natCast_mul]
  have : (g.natAbs : Int) = g := by omega
  rw [this]
theorem gcd3_mul {g : Int} (x y w : Int) (h : 0 ≤ g) : gcd3 (g * x) (g * y) (g * w) = g * gcd3 x y w := by
  unfold gcd3
  rw [gcdZ_mul x y h, gcdZ_mul _ w h]
theorem gcdZ_neg (a b : Int) : gcdZ (-a) (-b) = gcdZ a b := by unfold gcdZ; rw [Int.neg_gcd, Int.gcd_neg]
theorem gcdZ_pos {a b : Int} (h : a ≠ 0 ∨ b ≠ 0) : 0 < gcdZ a b := by
  rcases h with h | h
  · unfold gcdZ
    have := Int.gcd_pos_of_ne_zero_left b h
    omega
  · exact gcd_pos h
theorem gcd3_pos {x y w : Int} (h : x ≠ 0 ∨ y ≠ 0 ∨ w ≠ 0) : 0 < gcd3 x y w := by
  rcases h with h | h | h
  · exact gcdZ_pos (Or.inl (by have := gcdZ_pos (b := y) (Or.inl h); omega))
  · exact gcdZ_pos (Or.inl (by have := gcdZ_pos (a := x) (Or.inr h); omega))
  · exact gcd_pos h
theorem gcd3_dvd (x y w : Int) : gcd3 x y w ∣ x ∧ gcd3 x y w ∣ y ∧ gcd3 x y w ∣ w :=
  ⟨Int.dvd_trans (gcd_dvd_l _ w) (gcd_dvd_l x y), Int.dvd_trans (gcd_dvd_l _ w) (gcd_dvd_r x y), gcd_dvd_r _ w⟩
/-- x, y, w by their measure -/
theorem low3 {x y w : Int} (h : x ≠ 0 ∨ y ≠ 0 ∨ w ≠ 0) : ∃ x' y' w', x / gcd3 x y w = x' ∧ y / gcd3 x y w = y' ∧ w / gcd3 x y w = w' ∧ gcd3 x' y' w' = 1 ∧ x = gcd3 x y w * x' ∧ y = gcd3 x y w * y' ∧ w = gcd3 x y w * w' := by
  have g0 := gcd3_pos h
  obtain ⟨d1, d2, d3⟩ := gcd3_dvd x y w
  have h1 := Int.mul_ediv_cancel' d1
  have h2 := Int.mul_ediv_cancel' d2
  have h3 := Int.mul_ediv_cancel' d3
  refine ⟨_, _, _, rfl, rfl, rfl, ?_, h1.symm, h2.symm, h3.symm⟩
  have e := gcd3_mul (x / gcd3 x y w) (y / gcd3 x y w) (w / gcd3 x y w) (Int.le_of_lt g0)
  rw [h1, h2, h3] at e
  exact eq_of_mul (g := gcd3 x y w) (by omega) (by rw [Int.mul_one]; exact e.symm)
theorem le_of_fac {g x y : Int} (h : x = g * y) (g0 : 0 < g) : y.natAbs ≤ x.natAbs := by
  rw [h, Int.natAbs_mul]
  exact Nat.le_mul_of_pos_left _ (by omega)
/-- the measure is no greater than one of the three -/
theorem gcd3_le {x y w : Int} (h : w ≠ 0) : (gcd3 x y w).natAbs ≤ w.natAbs := gcd_le h
theorem gcd3_le' {x y w : Int} (h : x ≠ 0 ∨ y ≠ 0) : (gcd3 x y w).natAbs ≤ x.natAbs ∨ (gcd3 x y w).natAbs ≤ y.natAbs := by
  obtain ⟨d1, d2, d3⟩ := gcd3_dvd x y w
  rcases h with h | h
  · exact Or.inl (Nat.le_of_dvd (by omega) (Int.natAbs_dvd_natAbs.mpr d1))
  · exact Or.inr (Nat.le_of_dvd (by omega) (Int.natAbs_dvd_natAbs.mpr d2))
/-- a spot in lowest terms, of the place x/w, y/w -/
structure Spot (x y w x' y' w' : Int) : Prop where
  w1 : 1 ≤ w'
  g : gcd3 x' y' w' = 1
  ex : x' * w = w' * x
  ey : y' * w = w' * y
  /-- and so by a factor -/
  f : ∃ s : Int, s ≠ 0 ∧ x = s * x' ∧ y = s * y' ∧ w = s * w'
theorem spot_low {x y w : Int} (hw : w ≠ 0) : ∃ s x' y' w', s = (if w < 0 then -1 else 1) ∧ (s * x) / gcd3 (s * x) (s * y) (s * w) = x' ∧ (s * y) / gcd3 (s * x) (s * y) (s * w) = y' ∧ (s * w) / gcd3 (s * x) (s * y) (s * w) = w' ∧ Spot x y w x' y' w' ∧ 0 < gcd3 (s * x) (s * y) (s * w) ∧ (gcd3 (s * x) (s * y) (s * w)).natAbs ≤ w.natAbs ∧ x'.natAbs ≤ x.natAbs ∧ y'.natAbs ≤ y.natAbs ∧ w'.natAbs ≤ w.natAbs := by
  obtain ⟨s, hs⟩ : ∃ s : Int, s = (if w < 0 then -1 else 1) := ⟨_, rfl⟩
  have hs3 : s = 1 ∨ s = -1 := by rw [hs]; split <;> simp
  have hsw : 0 < s * w := by
    rw [hs]
    by_cases h : w < 0
    · rw [if_pos h]; omega
    · rw [if_neg h]; omega
  have bs : ∀ {x : Int}, (s * x).natAbs = x.natAbs := fun {x} => by rcases hs3 with h | h <;> rw [h] <;> omega
  have ss : s * s = 1 := by rcases hs3 with h | h <;> rw [h] <;> rfl
  obtain ⟨x', y', w', e1, e2, e3, hg, f1, f2, f3⟩ := low3 (x := s * x) (y := s * y) (w := s * w) (Or.inr (Or.inr (by omega)))
  have g0 := gcd3_pos (x := s * x) (y := s * y) (w := s * w) (Or.inr (Or.inr (by omega)))
  have gl := gcd3_le (x := s * x) (y := s * y) (w := s * w) (by omega)
  rw [bs] at gl
  refine ⟨s, x', y', w', hs, e1, e2, e3, ?_, g0, gl, ?_, ?_, ?_⟩
  · generalize gcd3 (s * x) (s * y) (s * w) = g at f1 f2 f3 g0
    have back : ∀ {a b : Int}, s * a = g * b → a = (s * g) * b := fun {a b} h => by
      rw [Int.mul_assoc, ← h, ← Int.mul_assoc, ss, Int.one_mul]
    have sg : s * g ≠ 0 := Int.mul_ne_zero (by omega) (by omega)
    refine ⟨?_, hg, ?_, ?_, s * g, sg, back f1, back f2, back f3⟩
    · rcases Int.lt_or_le 0 w' with h | h
      · omega
      · have := Int.mul_nonpos_of_nonneg_of_nonpos (Int.le_of_lt g0) h
        omega
    · rw [back f1, back f3]
      simp only [Int.mul_comm, Int.mul_left_comm]
    · rw [back f2, back f3]
      simp only [Int.mul_comm, Int.mul_left_comm]
  · have := le_of_fac f1 g0; rwa [bs] at this
  · have := le_of_fac f2 g0; rwa [bs] at this
  · have := le_of_fac f3 g0; rwa [bs] at this
end Sm

end
section
set_option Elab.async false
set_option linter.all false
set_option maxRecDepth 100000
namespace Sm
open Dv
theorem measure_eq (a b : Int) : f_measure [.int a, .int b] = some (.int (gcdZ a b)) := by
  have h := gcd_while b.natAbs a.natAbs b.natAbs (Nat.le_refl _)
  unfold f_measure s_measure c1_measure b1_measure
  simp only [Dv.get, Dv.xV, Dv.xC, Dv.frz, Dv.frzs, Dv.flat, Dv.flats, Dv.clean, Dv.cleans, Dv.frzSlot, Dv.frz1, Dv.frzAt, Dv.put, Dv.addD, Dv.subD, Dv.mulD, Dv.fdivD, Dv.modD, Dv.negD, Dv.x2, Dv.x1, Dv.xsN, Dv.xsC, Dv.xTup, Dv.xLst, Dv.xCall, Dv.asB, Dv.tOf, Dv.tNot, Dv.tAnd, Dv.tOr, Dv.xB, Dv.xIf, Dv.cmpI, Dv.ltD, Dv.leD, Dv.gtD, Dv.geD, Dv.xAnd, Dv.xOr, Dv.xNot, Dv.sN, Dv.sSeq, Dv.sSet, Dv.sRet, Dv.sRetV, Dv.sIf, Dv.sBk, Dv.sCt, Dv.gN, Dv.gsN, Dv.gsC, Dv.gT, Dv.fnD, Dv.ixD, Dv.slD, Dv.pN, Dv.pI, Dv.xSl, Dv.lenD', Dv.intD, Dv.maxD, Dv.minD, Dv.allD, Dv.anyD, Dv.allB, Dv.listD, Dv.xF, Dv.isiD, Dv.eqD, Dv.neD, Dv.isND, Dv.notND, Dv.isN2, Dv.notN2, Dv.sApp, Dv.itL, Dv.itR1, Dv.itR2, Dv.rngL, Dv.zipL, Dv.zipO, Dv.itZ, Dv.enuL, Dv.enuO, Dv.itEn, Dv.wipeD, Dv.keepD, Dv.tY, Dv.sAsg, Dv.sPar, Dv.sPar3, Dv.sAugI, Dv.sDrop, Dv.le_sLine, Dv.sh_non, Dv.sh_bl, Dv.sh_int, Dv.sh_tup, Dv.sh_lst, Dv.eqo_int, Dv.eqo_bl, Dv.eqo_tup, Dv.eqo_lst, Dv.eqos_nil, Dv.eqos_cons, List.all_cons, List.all_nil, Dv.beq_tt, Dv.beq_ff, Dv.beq_tf, Dv.beq_ft, List.getElem?_cons_zero, List.getElem?_cons_succ, List.getElem?_nil, List.set_cons_zero, List.set_cons_succ, List.set_nil, Option.bind_some, Option.bind_none, Option.map_some, Option.map_none, if_true, if_false, ↓reduceIte, decide_true, decide_false, Bool.false_eq_true, Bool.true_and, Bool.and_true, Bool.false_and, Bool.and_false, Bool.not_true, Bool.not_false, Bool.true_or, Bool.or_true, Bool.false_or, Bool.or_false, List.cons_append, List.nil_append, List.length_cons, List.length_nil, List.map_cons, List.map_nil, List.replicate_succ, List.replicate_zero, Nat.reduceAdd, Nat.reduceSub, Nat.reduceLT, Nat.reduceEqDiff, Nat.reduceLeDiff, Int.reduceAdd, Int.reduceSub, Int.reduceMul, Int.reduceNeg, Int.reduceLT, Int.reduceLE, Int.reduceEq, Int.reduceMod, Int.reduceDiv, Int.reduceToNat, Nat.add_zero, Nat.zero_add, List.contains_cons, List.contains_nil, Nat.reduceBEq, beq_self_eq_true, reduceCtorEq, and_true, true_and, and_false, false_and, not_true_eq_false, not_false_eq_true, absD, abs_nat]
  rw [h]
  rfl
end Sm

end
section
set_option Elab.async false
set_option linter.all false
set_option maxRecDepth 100000
namespace Sm
open Dv

theorem plain_side_ex {a b c : Int} (nz : a ≠ 0 ∨ b ≠ 0) {k l : Nat} [Sa : Sz k a] [Sb : Sz l b] (hk : Nat.ble k 140 = true) (hl : Nat.ble l 140 = true) : f_plain_side [.tup [.int a, .int b, .int c]] = some (.tup [.int (a / gcd3 a b c), .int (b / gcd3 a b c), .int (c / gcd3 a b c)]) ∧ divOk (gcd3 a b c) = true := by
  have nz3 : a ≠ 0 ∨ b ≠ 0 ∨ c ≠ 0 := by omega
  have g0 := gcd3_pos nz3
  have hd : divOk (gcd3 a b c) = true := by
    rcases gcd3_le' (w := c) nz with h | h
    · haveI := sz_le Sa h
      exact divOk_sz g0 hk
    · haveI := sz_le Sb h
      exact divOk_sz g0 hl
  refine ⟨?_, hd⟩
  unfold f_plain_side s_plain_side
  simp (config := {decide := true}) only [Dv.get, Dv.xV, Dv.xC, Dv.frz, Dv.frzs, Dv.flat, Dv.flats, Dv.clean, Dv.cleans, Dv.frzSlot, Dv.frz1, Dv.frzAt, Dv.put, Dv.addD, Dv.subD, Dv.mulD, Dv.fdivD, Dv.modD, Dv.negD, Dv.x2, Dv.x1, Dv.xsN, Dv.xsC, Dv.xTup, Dv.xLst, Dv.xCall, Dv.asB, Dv.tOf, Dv.tNot, Dv.tAnd, Dv.tOr, Dv.xB, Dv.xIf, Dv.cmpI, Dv.ltD, Dv.leD, Dv.gtD, Dv.geD, Dv.xAnd, Dv.xOr, Dv.xNot, Dv.sN, Dv.sSeq, Dv.sSet, Dv.sRet, Dv.sRetV, Dv.sIf, Dv.sBk, Dv.sCt, Dv.gN, Dv.gsN, Dv.gsC, Dv.gT, Dv.fnD, Dv.ixD, Dv.slD, Dv.pN, Dv.pI, Dv.xSl, Dv.lenD', Dv.intD, Dv.maxD, Dv.minD, Dv.allD, Dv.anyD, Dv.allB, Dv.listD, Dv.xF, Dv.isiD, Dv.eqD, Dv.neD, Dv.isND, Dv.notND, Dv.isN2, Dv.notN2, Dv.sApp, Dv.itL, Dv.itR1, Dv.itR2, Dv.rngL, Dv.zipL, Dv.zipO, Dv.itZ, Dv.enuL, Dv.enuO, Dv.itEn, Dv.wipeD, Dv.keepD, Dv.tY, Dv.sAsg, Dv.sPar, Dv.sPar3, Dv.sAugI, Dv.sDrop, Dv.at_20, Dv.at_21, Dv.at_30, Dv.at_31, Dv.at_32, Dv.at_40, Dv.at_41, Dv.at_42, Dv.at_43, Dv.at_10, Dv.frzs_ints, Dv.cleans_ints, Dv.le_sLine, Dv.sh_non, Dv.sh_bl, Dv.sh_int, Dv.sh_tup, Dv.sh_lst, Dv.eqo_int, Dv.eqo_bl, Dv.eqo_tup, Dv.eqo_lst, Dv.eqos_nil, Dv.eqos_cons, List.all_cons, List.all_nil, Dv.beq_tt, Dv.beq_ff, Dv.beq_tf, Dv.beq_ft, List.getElem?_cons_zero, List.getElem?_cons_succ, List.getElem?_nil, List.set_cons_zero, List.set_cons_succ, List.set_nil, Option.bind_some, Option.bind_none, Option.map_some, Option.map_none, if_true, if_false, ↓reduceIte, decide_true, decide_false, Bool.false_eq_true, Bool.true_and, Bool.and_true, Bool.false_and, Bool.and_false, Bool.not_true, Bool.not_false, Bool.true_or, Bool.or_true, Bool.false_or, Bool.or_false, List.cons_append, List.nil_append, List.length_cons, List.length_nil, List.map_cons, List.map_nil, List.replicate_succ, List.replicate_zero, Nat.reduceAdd, Nat.reduceSub, Nat.reduceLT, Nat.reduceEqDiff, Nat.reduceLeDiff, Int.reduceAdd, Int.reduceSub, Int.reduceMul, Int.reduceNeg, Int.reduceLT, Int.reduceLE, Int.reduceEq, Int.reduceMod, Int.reduceDiv, Int.reduceToNat, Nat.add_zero, Nat.zero_add, List.contains_cons, List.contains_nil, Nat.reduceBEq, beq_self_eq_true, reduceCtorEq, and_true, true_and, and_false, false_and, not_true_eq_false, not_false_eq_true, Dv.mulOk_sz, measure_eq, hd]
theorem plain_side_eq {a b c : Int} (nz : a ≠ 0 ∨ b ≠ 0) {k l m : Nat} [Sa : Sz k a] [Sb : Sz l b] [Sc : Sz m c] (hk : Nat.ble k 140 = true) (hl : Nat.ble l 140 = true) : ∃ a' b' c' g, f_plain_side [.tup [.int a, .int b, .int c]] = some (.tup [.int a', .int b', .int c']) ∧ gcd3 a' b' c' = 1 ∧ 0 < g ∧ a = g * a' ∧ b = g * b' ∧ c = g * c' ∧ Sz k a' ∧ Sz l b' ∧ Sz m c' := by
  have nz3 : a ≠ 0 ∨ b ≠ 0 ∨ c ≠ 0 := by omega
  obtain ⟨a', b', c', e1, e2, e3, hg, f1, f2, f3⟩ := low3 nz3
  have g0 := gcd3_pos nz3
  have hd : divOk (gcd3 a b c) = true := by
    rcases gcd3_le' (w := c) nz with h | h
    · haveI := sz_le Sa h
      exact divOk_sz g0 hk
    · haveI := sz_le Sb h
      exact divOk_sz g0 hl
  refine ⟨a', b', c', gcd3 a b c, ?_, hg, g0, f1, f2, f3, sz_le Sa (le_of_fac f1 g0), sz_le Sb (le_of_fac f2 g0), sz_le Sc (le_of_fac f3 g0)⟩
  unfold f_plain_side s_plain_side
  simp (config := {decide := true}) only [Dv.get, Dv.xV, Dv.xC, Dv.frz, Dv.frzs, Dv.flat, Dv.flats, Dv.clean, Dv.cleans, Dv.frzSlot, Dv.frz1, Dv.frzAt, Dv.put, Dv.addD, Dv.subD, Dv.mulD, Dv.fdivD, Dv.modD, Dv.negD, Dv.x2, Dv.x1, Dv.xsN, Dv.xsC, Dv.xTup, Dv.xLst, Dv.xCall, Dv.asB, Dv.tOf, Dv.tNot, Dv.tAnd, Dv.tOr, Dv.xB, Dv.xIf, Dv.cmpI, Dv.ltD, Dv.leD, Dv.gtD, Dv.geD, Dv.xAnd, Dv.xOr, Dv.xNot, Dv.sN, Dv.sSeq, Dv.sSet, Dv.sRet, Dv.sRetV, Dv.sIf, Dv.sBk, Dv.sCt, Dv.gN, Dv.gsN, Dv.gsC, Dv.gT, Dv.fnD, Dv.ixD, Dv.slD, Dv.pN, Dv.pI, Dv.xSl, Dv.lenD', Dv.intD, Dv.maxD, Dv.minD, Dv.allD, Dv.anyD, Dv.allB, Dv.listD, Dv.xF, Dv.isiD, Dv.eqD, Dv.neD, Dv.isND, Dv.notND, Dv.isN2, Dv.notN2, Dv.sApp, Dv.itL, Dv.itR1, Dv.itR2, Dv.rngL, Dv.zipL, Dv.zipO, Dv.itZ, Dv.enuL, Dv.enuO, Dv.itEn, Dv.wipeD, Dv.keepD, Dv.tY, Dv.sAsg, Dv.sPar, Dv.sPar3, Dv.sAugI, Dv.sDrop, Dv.at_20, Dv.at_21, Dv.at_30, Dv.at_31, Dv.at_32, Dv.at_40, Dv.at_41, Dv.at_42, Dv.at_43, Dv.at_10, Dv.frzs_ints, Dv.cleans_ints, Dv.le_sLine, Dv.sh_non, Dv.sh_bl, Dv.sh_int, Dv.sh_tup, Dv.sh_lst, Dv.eqo_int, Dv.eqo_bl, Dv.eqo_tup, Dv.eqo_lst, Dv.eqos_nil, Dv.eqos_cons, List.all_cons, List.all_nil, Dv.beq_tt, Dv.beq_ff, Dv.beq_tf, Dv.beq_ft, List.getElem?_cons_zero, List.getElem?_cons_succ, List.getElem?_nil, List.set_cons_zero, List.set_cons_succ, List.set_nil, Option.bind_some, Option.bind_none, Option.map_some, Option.map_none, if_true, if_false, ↓reduceIte, decide_true, decide_false, Bool.false_eq_true, Bool.true_and, Bool.and_true, Bool.false_and, Bool.and_false, Bool.not_true, Bool.not_false, Bool.true_or, Bool.or_true, Bool.false_or, Bool.or_false, List.cons_append, List.nil_append, List.length_cons, List.length_nil, List.map_cons, List.map_nil, List.replicate_succ, List.replicate_zero, Nat.reduceAdd, Nat.reduceSub, Nat.reduceLT, Nat.reduceEqDiff, Nat.reduceLeDiff, Int.reduceAdd, Int.reduceSub, Int.reduceMul, Int.reduceNeg, Int.reduceLT, Int.reduceLE, Int.reduceEq, Int.reduceMod, Int.reduceDiv, Int.reduceToNat, Nat.add_zero, Nat.zero_add, List.contains_cons, List.contains_nil, Nat.reduceBEq, beq_self_eq_true, reduceCtorEq, and_true, true_and, and_false, false_and, not_true_eq_false, not_false_eq_true, Dv.mulOk_sz, measure_eq, hd, e1, e2, e3]
end Sm

end
section
set_option Elab.async false
set_option linter.all false
set_option maxRecDepth 100000
/-! the program's bank_sides -/
namespace Sm
open Dv
/-- the plain side along a stretch -/
def Row (a b : S2) (s : S3) : Prop := gcd3 s.1 s.2.1 s.2.2 = 1 ∧ Bk 1 s ∧ ∃ g : Int, 0 < g ∧ b.2 - a.2 = g * s.1 ∧ -(b.1 - a.1) = g * s.2.1 ∧ (b.2 - a.2) * a.1 - (b.1 - a.1) * a.2 = g * s.2.2
def Sm2 (c : S2) : Prop := (-100000 ≤ c.1 ∧ c.1 ≤ 100000) ∧ (-100000 ≤ c.2 ∧ c.2 ≤ 100000)
theorem mulS {a b : Int} (h : -200000 ≤ a ∧ a ≤ 200000) (k : -100000 ≤ b ∧ b ≤ 100000) : -20000000000 ≤ a * b ∧ a * b ≤ 20000000000 := by
  have h1 := Nat.mul_le_mul (show a.natAbs ≤ 200000 by omega) (show b.natAbs ≤ 100000 by omega)
  rw [← Int.natAbs_mul] at h1
  omega
theorem bank_side_ex {a b : S2} (ha : Sm2 a) (hb : Sm2 b) (ne : a ≠ b) : ∃ s : S3, f_bank_side [pO a, pO b] = some (sO s) ∧ Row a b s := by
  obtain ⟨x, y⟩ := a
  obtain ⟨p, q⟩ := b
  obtain ⟨a1, a2⟩ := ha
  obtain ⟨b1, b2⟩ := hb
  simp only at a1 a2 b1 b2
  have nz : q - y ≠ 0 ∨ -(p - x) ≠ 0 := by
    apply Classical.byContradiction
    intro h
    exact ne (Prod.ext (by simp only; omega) (by simp only; omega))
  haveI : Sz 1 x := sz1 (by omega) (by omega)
  haveI : Sz 1 y := sz1 (by omega) (by omega)
  haveI : Sz 1 p := sz1 (by omega) (by omega)
  haveI : Sz 1 q := sz1 (by omega) (by omega)
  obtain ⟨u, hu⟩ : ∃ u, p - x = u := ⟨_, rfl⟩
  obtain ⟨v, hv⟩ : ∃ v, q - y = v := ⟨_, rfl⟩
  rw [hu, hv] at nz
  have m1 := mulS (a := v) (b := x) (by omega) a1
  have m2 := mulS (a := u) (b := y) (by omega) a2
  haveI : Sz 1 u := sz1 (by omega) (by omega)
  haveI : Sz 1 v := sz1 (by omega) (by omega)
  haveI : Sz 1 (-u) := sz1 (by omega) (by omega)
  have sc : Sz 1 (v * x - u * y) := sz1 (by omega) (by omega)
  haveI := sc
  obtain ⟨a', b', c', g, hp, hg, g0, f1, f2, f3, z1, z2, z3⟩ := plain_side_eq (a := v) (b := -u) (c := v * x - u * y) (k := 1) (l := 1) (m := 1) nz (by decide) (by decide)
  refine ⟨(a', b', c'), ?_, hg, ⟨z1, z2, z3⟩, g, g0, by show q - y = _; rw [hv]; exact f1, by show -(p - x) = _; rw [hu]; exact f2, by show (q - y) * x - (p - x) * y = _; rw [hu, hv]; exact f3⟩
  have st : f_stretch [.tup [.int x, .int y], .tup [.int p, .int q]] = some (.tup [.int u, .int v]) := by
    unfold f_stretch s_stretch
    simp (config := {decide := true}) only [Dv.get, Dv.xV, Dv.xC, Dv.frz, Dv.frzs, Dv.flat, Dv.flats, Dv.clean, Dv.cleans, Dv.frzSlot, Dv.frz1, Dv.frzAt, Dv.put, Dv.addD, Dv.subD, Dv.mulD, Dv.fdivD, Dv.modD, Dv.negD, Dv.x2, Dv.x1, Dv.xsN, Dv.xsC, Dv.xTup, Dv.xLst, Dv.xCall, Dv.asB, Dv.tOf, Dv.tNot, Dv.tAnd, Dv.tOr, Dv.xB, Dv.xIf, Dv.cmpI, Dv.ltD, Dv.leD, Dv.gtD, Dv.geD, Dv.xAnd, Dv.xOr, Dv.xNot, Dv.sN, Dv.sSeq, Dv.sSet, Dv.sRet, Dv.sRetV, Dv.sIf, Dv.sBk, Dv.sCt, Dv.gN, Dv.gsN, Dv.gsC, Dv.gT, Dv.fnD, Dv.ixD, Dv.slD, Dv.pN, Dv.pI, Dv.xSl, Dv.lenD', Dv.intD, Dv.maxD, Dv.minD, Dv.allD, Dv.anyD, Dv.allB, Dv.listD, Dv.xF, Dv.isiD, Dv.eqD, Dv.neD, Dv.isND, Dv.notND, Dv.isN2, Dv.notN2, Dv.sApp, Dv.itL, Dv.itR1, Dv.itR2, Dv.rngL, Dv.zipL, Dv.zipO, Dv.itZ, Dv.enuL, Dv.enuO, Dv.itEn, Dv.wipeD, Dv.keepD, Dv.tY, Dv.sAsg, Dv.sPar, Dv.sPar3, Dv.sAugI, Dv.sDrop, Dv.at_20, Dv.at_21, Dv.at_30, Dv.at_31, Dv.at_32, Dv.at_40, Dv.at_41, Dv.at_42, Dv.at_43, Dv.at_10, Dv.frzs_ints, Dv.cleans_ints, Dv.le_sLine, Dv.sh_non, Dv.sh_bl, Dv.sh_int, Dv.sh_tup, Dv.sh_lst, Dv.eqo_int, Dv.eqo_bl, Dv.eqo_tup, Dv.eqo_lst, Dv.eqos_nil, Dv.eqos_cons, List.all_cons, List.all_nil, Dv.beq_tt, Dv.beq_ff, Dv.beq_tf, Dv.beq_ft, List.getElem?_cons_zero, List.getElem?_cons_succ, List.getElem?_nil, List.set_cons_zero, List.set_cons_succ, List.set_nil, Option.bind_some, Option.bind_none, Option.map_some, Option.map_none, if_true, if_false, ↓reduceIte, decide_true, decide_false, Bool.false_eq_true, Bool.true_and, Bool.and_true, Bool.false_and, Bool.and_false, Bool.not_true, Bool.not_false, Bool.true_or, Bool.or_true, Bool.false_or, Bool.or_false, List.cons_append, List.nil_append, List.length_cons, List.length_nil, List.map_cons, List.map_nil, List.replicate_succ, List.replicate_zero, Nat.reduceAdd, Nat.reduceSub, Nat.reduceLT, Nat.reduceEqDiff, Nat.reduceLeDiff, Int.reduceAdd, Int.reduceSub, Int.reduceMul, Int.reduceNeg, Int.reduceLT, Int.reduceLE, Int.reduceEq, Int.reduceMod, Int.reduceDiv, Int.reduceToNat, Nat.add_zero, Nat.zero_add, List.contains_cons, List.contains_nil, Nat.reduceBEq, beq_self_eq_true, reduceCtorEq, and_true, true_and, and_false, false_and, not_true_eq_false, not_false_eq_true, Dv.mulOk_sz, hu, hv]
  unfold pO f_bank_side s_bank_side
  refine fnD_of rfl rfl ?_
  refine seq_nx (τ' := [some (.tup [.int x, .int y]), some (.tup [.int p, .int q]), some (.int u), some (.int v)]) (by simp (config := {decide := true}) only [Dv.get, Dv.xV, Dv.xC, Dv.frz, Dv.frzs, Dv.flat, Dv.flats, Dv.clean, Dv.cleans, Dv.frzSlot, Dv.frz1, Dv.frzAt, Dv.put, Dv.addD, Dv.subD, Dv.mulD, Dv.fdivD, Dv.modD, Dv.negD, Dv.x2, Dv.x1, Dv.xsN, Dv.xsC, Dv.xTup, Dv.xLst, Dv.xCall, Dv.asB, Dv.tOf, Dv.tNot, Dv.tAnd, Dv.tOr, Dv.xB, Dv.xIf, Dv.cmpI, Dv.ltD, Dv.leD, Dv.gtD, Dv.geD, Dv.xAnd, Dv.xOr, Dv.xNot, Dv.sN, Dv.sSeq, Dv.sSet, Dv.sRet, Dv.sRetV, Dv.sIf, Dv.sBk, Dv.sCt, Dv.gN, Dv.gsN, Dv.gsC, Dv.gT, Dv.fnD, Dv.ixD, Dv.slD, Dv.pN, Dv.pI, Dv.xSl, Dv.lenD', Dv.intD, Dv.maxD, Dv.minD, Dv.allD, Dv.anyD, Dv.allB, Dv.listD, Dv.xF, Dv.isiD, Dv.eqD, Dv.neD, Dv.isND, Dv.notND, Dv.isN2, Dv.notN2, Dv.sApp, Dv.itL, Dv.itR1, Dv.itR2, Dv.rngL, Dv.zipL, Dv.zipO, Dv.itZ, Dv.enuL, Dv.enuO, Dv.itEn, Dv.wipeD, Dv.keepD, Dv.tY, Dv.sAsg, Dv.sPar, Dv.sPar3, Dv.sAugI, Dv.sDrop, Dv.at_20, Dv.at_21, Dv.at_30, Dv.at_31, Dv.at_32, Dv.at_40, Dv.at_41, Dv.at_42, Dv.at_43, Dv.at_10, Dv.frzs_ints, Dv.cleans_ints, Dv.le_sLine, Dv.sh_non, Dv.sh_bl, Dv.sh_int, Dv.sh_tup, Dv.sh_lst, Dv.eqo_int, Dv.eqo_bl, Dv.eqo_tup, Dv.eqo_lst, Dv.eqos_nil, Dv.eqos_cons, List.all_cons, List.all_nil, Dv.beq_tt, Dv.beq_ff, Dv.beq_tf, Dv.beq_ft, List.getElem?_cons_zero, List.getElem?_cons_succ, List.getElem?_nil, List.set_cons_zero, List.set_cons_succ, List.set_nil, Option.bind_some, Option.bind_none, Option.map_some, Option.map_none, if_true, if_false, ↓reduceIte, decide_true, decide_false, Bool.false_eq_true, Bool.true_and, Bool.and_true, Bool.false_and, Bool.and_false, Bool.not_true, Bool.not_false, Bool.true_or, Bool.or_true, Bool.false_or, Bool.or_false, List.cons_append, List.nil_append, List.length_cons, List.length_nil, List.map_cons, List.map_nil, List.replicate_succ, List.replicate_zero, Nat.reduceAdd, Nat.reduceSub, Nat.reduceLT, Nat.reduceEqDiff, Nat.reduceLeDiff, Int.reduceAdd, Int.reduceSub, Int.reduceMul, Int.reduceNeg, Int.reduceLT, Int.reduceLE, Int.reduceEq, Int.reduceMod, Int.reduceDiv, Int.reduceToNat, Nat.add_zero, Nat.zero_add, List.contains_cons, List.contains_nil, Nat.reduceBEq, beq_self_eq_true, reduceCtorEq, and_true, true_and, and_false, false_and, not_true_eq_false, not_false_eq_true, Dv.mulOk_sz, st]) ?_
  simp (config := {decide := true}) only [Dv.get, Dv.xV, Dv.xC, Dv.frz, Dv.frzs, Dv.flat, Dv.flats, Dv.clean, Dv.cleans, Dv.frzSlot, Dv.frz1, Dv.frzAt, Dv.put, Dv.addD, Dv.subD, Dv.mulD, Dv.fdivD, Dv.modD, Dv.negD, Dv.x2, Dv.x1, Dv.xsN, Dv.xsC, Dv.xTup, Dv.xLst, Dv.xCall, Dv.asB, Dv.tOf, Dv.tNot, Dv.tAnd, Dv.tOr, Dv.xB, Dv.xIf, Dv.cmpI, Dv.ltD, Dv.leD, Dv.gtD, Dv.geD, Dv.xAnd, Dv.xOr, Dv.xNot, Dv.sN, Dv.sSeq, Dv.sSet, Dv.sRet, Dv.sRetV, Dv.sIf, Dv.sBk, Dv.sCt, Dv.gN, Dv.gsN, Dv.gsC, Dv.gT, Dv.fnD, Dv.ixD, Dv.slD, Dv.pN, Dv.pI, Dv.xSl, Dv.lenD', Dv.intD, Dv.maxD, Dv.minD, Dv.allD, Dv.anyD, Dv.allB, Dv.listD, Dv.xF, Dv.isiD, Dv.eqD, Dv.neD, Dv.isND, Dv.notND, Dv.isN2, Dv.notN2, Dv.sApp, Dv.itL, Dv.itR1, Dv.itR2, Dv.rngL, Dv.zipL, Dv.zipO, Dv.itZ, Dv.enuL, Dv.enuO, Dv.itEn, Dv.wipeD, Dv.keepD, Dv.tY, Dv.sAsg, Dv.sPar, Dv.sPar3, Dv.sAugI, Dv.sDrop, Dv.at_20, Dv.at_21, Dv.at_30, Dv.at_31, Dv.at_32, Dv.at_40, Dv.at_41, Dv.at_42, Dv.at_43, Dv.at_10, Dv.frzs_ints, Dv.cleans_ints, Dv.le_sLine, Dv.sh_non, Dv.sh_bl, Dv.sh_int, Dv.sh_tup, Dv.sh_lst, Dv.eqo_int, Dv.eqo_bl, Dv.eqo_tup, Dv.eqo_lst, Dv.eqos_nil, Dv.eqos_cons, List.all_cons, List.all_nil, Dv.beq_tt, Dv.beq_ff, Dv.beq_tf, Dv.beq_ft, List.getElem?_cons_zero, List.getElem?_cons_succ, List.getElem?_nil, List.set_cons_zero, List.set_cons_succ, List.set_nil, Option.bind_some, Option.bind_none, Option.map_some, Option.map_none, if_true, if_false, ↓reduceIte, decide_true, decide_false, Bool.false_eq_true, Bool.true_and, Bool.and_true, Bool.false_and, Bool.and_false, Bool.not_true, Bool.not_false, Bool.true_or, Bool.or_true, Bool.false_or, Bool.or_false, List.cons_append, List.nil_append, List.length_cons, List.length_nil, List.map_cons, List.map_nil, List.replicate_succ, List.replicate_zero, Nat.reduceAdd, Nat.reduceSub, Nat.reduceLT, Nat.reduceEqDiff, Nat.reduceLeDiff, Int.reduceAdd, Int.reduceSub, Int.reduceMul, Int.reduceNeg, Int.reduceLT, Int.reduceLE, Int.reduceEq, Int.reduceMod, Int.reduceDiv, Int.reduceToNat, Nat.add_zero, Nat.zero_add, List.contains_cons, List.contains_nil, Nat.reduceBEq, beq_self_eq_true, reduceCtorEq, and_true, true_and, and_false, false_and, not_true_eq_false, not_false_eq_true, Dv.mulOk_sz, hp] <;> rfl
theorem pO_at {P : List S2} {i : Nat} {a : S2} (h : P[i]? = some a) : at? (P.map pO) (i : Int) = some (pO a) := by
  have : (P.map pO)[i]? = some (pO a) := by rw [List.getElem?_map, h]; rfl
  unfold at?
  rw [if_pos (by omega), Int.toNat_natCast]
  exact this
/-- the rows of a list of items that each have one -/
theorem lcD_rows {g : TGd} {e : SE} {τ : Sl} {Q : Nat → S3 → Prop} : ∀ (k n : Nat), (∀ i, n ≤ i → i < n + k → ∃ τ1 s, g (.int i) τ = some τ1 ∧ e τ1 = some (sO s) ∧ Q i s) → ∃ R : List S3, lcD g tY e (rngL n k) τ = some (R.map sO) ∧ R.length = k ∧ ∀ i s, R[i]? = some s → Q (n + i) s
  | 0, n, _ => ⟨[], rfl, rfl, fun i s h => by cases h⟩
  | k + 1, n, h => by
    obtain ⟨τ1, s, h1, h2, h3⟩ := h n (Nat.le_refl _) (by omega)
    obtain ⟨R, r1, r2, r3⟩ := lcD_rows (g := g) (e := e) (τ := τ) (Q := Q) k (n + 1) fun i a b => h i (by omega) (by omega)
    refine ⟨s :: R, ?_, by rw [List.length_cons, r2], fun i t ht => ?_⟩
    · show lcD g tY e (.int n :: rngL ((n : Int) + 1) k) τ = _
      unfold lcD
      rw [h1, Option.bind_some]
      show (Option.bind (some true) _) = _
      rw [Option.bind_some, if_pos rfl, h2, Option.bind_some, show ((n : Int) + 1) = ((n + 1 : Nat) : Int) by omega, r1]
      rfl
    · cases i with
      | zero => cases ht; exact h3
      | succ i =>
        have := r3 i t ht
        rwa [show n + 1 + i = n + (i + 1) by omega] at this
theorem bank_sides_ex (o : Bool) {P : List S2} (hP : ∀ c ∈ P, Sm2 c) (hR : Rnd P) (l0 : 0 < P.length) (l1 : P.length ≤ 100) : ∃ R : List S3, f_bank_sides [.lst o (P.map pO)] = some (.lst true (R.map sO)) ∧ R.length = P.length ∧
    ∀ i s, R[i]? = some s → ∀ a b, P[i]? = some a → P[(i + 1) % P.length]? = some b → Row a b s := by
  have fJ := frzs_pO P
  have lJ : ((P.map pO).length : Int) = (P.length : Int) := by rw [List.length_map]
  obtain ⟨R, r1, r2, r3⟩ := lcD_rows (g := gN 2) (e := xCall f_bank_side (xsC (x2 ixD (xV 0) (xV 2)) (xsC (x2 ixD (xV 0) (x2 modD (x2 addD (xV 2) (xC (.int 1))) (xV 1))) (xsN)))) (τ := [some (.lst false (P.map pO)), some (.int P.length), none]) (Q := fun i s => ∀ a b, P[i]? = some a → P[(i + 1) % P.length]? = some b → Row a b s) P.length 0 (fun i _ hi => by
    rw [Nat.zero_add] at hi
    have lj : (i + 1) % P.length < P.length := Nat.mod_lt _ l0
    obtain ⟨a, ha⟩ : ∃ a, P[i]? = some a := ⟨_, List.getElem?_eq_getElem hi⟩
    obtain ⟨b, hb⟩ : ∃ b, P[(i + 1) % P.length]? = some b := ⟨_, List.getElem?_eq_getElem lj⟩
    have ne := (hR i a b ha hb).1
    obtain ⟨s, h1, h2⟩ := bank_side_ex (hP a (List.mem_of_getElem? ha)) (hP b (List.mem_of_getElem? hb)) ne
    refine ⟨[some (.lst false (P.map pO)), some (.int P.length), some (.int i)], s, rfl, ?_, fun a' b' ha' hb' => by rw [ha] at ha'; rw [hb] at hb'; cases ha'; cases hb'; exact h2⟩
    have g1 := pO_at ha
    have g2 := pO_at hb
    have em : ((i : Int) + 1) % (P.length : Int) = (((i + 1) % P.length : Nat) : Int) := by rw [Int.natCast_emod, Int.natCast_add]; rfl
    have lp : (0 < (P.length : Int)) = True := eq_true (by omega)
    have fa : frz (pO a) = pO a := rfl
    have fb : frz (pO b) = pO b := rfl
    obtain ⟨J, hJ⟩ : ∃ J, P.map pO = J := ⟨_, rfl⟩
    obtain ⟨x, hx⟩ : ∃ x, pO a = x := ⟨_, rfl⟩
    obtain ⟨y, hy⟩ : ∃ x, pO b = x := ⟨_, rfl⟩
    have dk : divOk (P.length : Int) = true := by
      haveI : Sz 1 (P.length : Int) := sz1 (by omega) (by omega)
      exact divOk_sz (by omega) (by decide)
    rw [hJ] at fJ g1 g2 ⊢
    rw [hx] at g1 fa h1
    rw [hy] at g2 fb h1
    simp (config := {decide := true}) only [Dv.get, Dv.xV, Dv.xC, Dv.frz, Dv.frzs, Dv.flat, Dv.flats, Dv.clean, Dv.cleans, Dv.frzSlot, Dv.frz1, Dv.frzAt, Dv.put, Dv.addD, Dv.subD, Dv.mulD, Dv.fdivD, Dv.modD, Dv.negD, Dv.x2, Dv.x1, Dv.xsN, Dv.xsC, Dv.xTup, Dv.xLst, Dv.xCall, Dv.asB, Dv.tOf, Dv.tNot, Dv.tAnd, Dv.tOr, Dv.xB, Dv.xIf, Dv.cmpI, Dv.ltD, Dv.leD, Dv.gtD, Dv.geD, Dv.xAnd, Dv.xOr, Dv.xNot, Dv.sN, Dv.sSeq, Dv.sSet, Dv.sRet, Dv.sRetV, Dv.sIf, Dv.sBk, Dv.sCt, Dv.gN, Dv.gsN, Dv.gsC, Dv.gT, Dv.fnD, Dv.ixD, Dv.slD, Dv.pN, Dv.pI, Dv.xSl, Dv.lenD', Dv.intD, Dv.maxD, Dv.minD, Dv.allD, Dv.anyD, Dv.allB, Dv.listD, Dv.xF, Dv.isiD, Dv.eqD, Dv.neD, Dv.isND, Dv.notND, Dv.isN2, Dv.notN2, Dv.sApp, Dv.itL, Dv.itR1, Dv.itR2, Dv.rngL, Dv.zipL, Dv.zipO, Dv.itZ, Dv.enuL, Dv.enuO, Dv.itEn, Dv.wipeD, Dv.keepD, Dv.tY, Dv.sAsg, Dv.sPar, Dv.sPar3, Dv.sAugI, Dv.sDrop, Dv.at_20, Dv.at_21, Dv.at_30, Dv.at_31, Dv.at_32, Dv.at_40, Dv.at_41, Dv.at_42, Dv.at_43, Dv.at_10, Dv.frzs_ints, Dv.cleans_ints, Dv.le_sLine, Dv.sh_non, Dv.sh_bl, Dv.sh_int, Dv.sh_tup, Dv.sh_lst, Dv.eqo_int, Dv.eqo_bl, Dv.eqo_tup, Dv.eqo_lst, Dv.eqos_nil, Dv.eqos_cons, List.all_cons, List.all_nil, Dv.beq_tt, Dv.beq_ff, Dv.beq_tf, Dv.beq_ft, List.getElem?_cons_zero, List.getElem?_cons_succ, List.getElem?_nil, List.set_cons_zero, List.set_cons_succ, List.set_nil, Option.bind_some, Option.bind_none, Option.map_some, Option.map_none, if_true, if_false, ↓reduceIte, decide_true, decide_false, Bool.false_eq_true, Bool.true_and, Bool.and_true, Bool.false_and, Bool.and_false, Bool.not_true, Bool.not_false, Bool.true_or, Bool.or_true, Bool.false_or, Bool.or_false, List.cons_append, List.nil_append, List.length_cons, List.length_nil, List.map_cons, List.map_nil, List.replicate_succ, List.replicate_zero, Nat.reduceAdd, Nat.reduceSub, Nat.reduceLT, Nat.reduceEqDiff, Nat.reduceLeDiff, Int.reduceAdd, Int.reduceSub, Int.reduceMul, Int.reduceNeg, Int.reduceLT, Int.reduceLE, Int.reduceEq, Int.reduceMod, Int.reduceDiv, Int.reduceToNat, Nat.add_zero, Nat.zero_add, List.contains_cons, List.contains_nil, Nat.reduceBEq, beq_self_eq_true, reduceCtorEq, and_true, true_and, and_false, false_and, not_true_eq_false, not_false_eq_true, Dv.mulOk_sz, fJ, g1, em, g2, fa, fb, h1, dk, lp])
  refine ⟨R, ?_, r2, fun i s h => by have := r3 i s h; rwa [Nat.zero_add] at this⟩
  have rk : itR1 (xV 1) [some (.lst false (P.map pO)), some (.int P.length), none] = some (rngL 0 P.length) := by
    unfold itR1
    show (Option.bind (some (O.int P.length)) _) = _
    rw [Option.bind_some]
    exact if_pos ⟨Int.le_trans (by decide) (show (0 : Int) ≤ _ by omega), Int.lt_of_le_of_lt (show ((P.length : Int)) ≤ 1000 by omega) (by decide)⟩
  have fr : frzs (rngL 0 P.length) = rngL 0 P.length := frzs_rng _ _
  have sl : (rngL 0 P.length).length ≤ sLine := by rw [len_rng]; exact Nat.le_trans l1 (by decide)
  have r1' : lcD (gN 2) tY (xCall f_bank_side (xsC (x2 ixD (xV 0) (xV 2)) (xsC (x2 ixD (xV 0) (x2 modD (x2 addD (xV 2) (xC (.int 1))) (xV 1))) (xsN)))) (rngL 0 P.length) [some (.lst false (P.map pO)), some (.int P.length), none] = some (R.map sO) := r1
  obtain ⟨J, hJ⟩ : ∃ J, P.map pO = J := ⟨_, rfl⟩
  obtain ⟨K, hK⟩ : ∃ K, R.map sO = K := ⟨_, rfl⟩
  rw [hJ] at fJ lJ rk r1' ⊢
  rw [hK] at r1' ⊢
  unfold f_bank_sides s_bank_sides
  refine fnD_of (τ := [some (.lst false J), none, none]) rfl (by show [some (O.lst false (frzs J)), none, none] = _; rw [fJ]) ?_
  refine seq_nx (τ' := [some (.lst false J), some (.int P.length), none]) (by simp (config := {decide := true}) only [Dv.get, Dv.xV, Dv.xC, Dv.frz, Dv.frzs, Dv.flat, Dv.flats, Dv.clean, Dv.cleans, Dv.frzSlot, Dv.frz1, Dv.frzAt, Dv.put, Dv.addD, Dv.subD, Dv.mulD, Dv.fdivD, Dv.modD, Dv.negD, Dv.x2, Dv.x1, Dv.xsN, Dv.xsC, Dv.xTup, Dv.xLst, Dv.xCall, Dv.asB, Dv.tOf, Dv.tNot, Dv.tAnd, Dv.tOr, Dv.xB, Dv.xIf, Dv.cmpI, Dv.ltD, Dv.leD, Dv.gtD, Dv.geD, Dv.xAnd, Dv.xOr, Dv.xNot, Dv.sN, Dv.sSeq, Dv.sSet, Dv.sRet, Dv.sRetV, Dv.sIf, Dv.sBk, Dv.sCt, Dv.gN, Dv.gsN, Dv.gsC, Dv.gT, Dv.fnD, Dv.ixD, Dv.slD, Dv.pN, Dv.pI, Dv.xSl, Dv.lenD', Dv.intD, Dv.maxD, Dv.minD, Dv.allD, Dv.anyD, Dv.allB, Dv.listD, Dv.xF, Dv.isiD, Dv.eqD, Dv.neD, Dv.isND, Dv.notND, Dv.isN2, Dv.notN2, Dv.sApp, Dv.itL, Dv.itR1, Dv.itR2, Dv.rngL, Dv.zipL, Dv.zipO, Dv.itZ, Dv.enuL, Dv.enuO, Dv.itEn, Dv.wipeD, Dv.keepD, Dv.tY, Dv.sAsg, Dv.sPar, Dv.sPar3, Dv.sAugI, Dv.sDrop, Dv.at_20, Dv.at_21, Dv.at_30, Dv.at_31, Dv.at_32, Dv.at_40, Dv.at_41, Dv.at_42, Dv.at_43, Dv.at_10, Dv.frzs_ints, Dv.cleans_ints, Dv.le_sLine, Dv.sh_non, Dv.sh_bl, Dv.sh_int, Dv.sh_tup, Dv.sh_lst, Dv.eqo_int, Dv.eqo_bl, Dv.eqo_tup, Dv.eqo_lst, Dv.eqos_nil, Dv.eqos_cons, List.all_cons, List.all_nil, Dv.beq_tt, Dv.beq_ff, Dv.beq_tf, Dv.beq_ft, List.getElem?_cons_zero, List.getElem?_cons_succ, List.getElem?_nil, List.set_cons_zero, List.set_cons_succ, List.set_nil, Option.bind_some, Option.bind_none, Option.map_some, Option.map_none, if_true, if_false, ↓reduceIte, decide_true, decide_false, Bool.false_eq_true, Bool.true_and, Bool.and_true, Bool.false_and, Bool.and_false, Bool.not_true, Bool.not_false, Bool.true_or, Bool.or_true, Bool.false_or, Bool.or_false, List.cons_append, List.nil_append, List.length_cons, List.length_nil, List.map_cons, List.map_nil, List.replicate_succ, List.replicate_zero, Nat.reduceAdd, Nat.reduceSub, Nat.reduceLT, Nat.reduceEqDiff, Nat.reduceLeDiff, Int.reduceAdd, Int.reduceSub, Int.reduceMul, Int.reduceNeg, Int.reduceLT, Int.reduceLE, Int.reduceEq, Int.reduceMod, Int.reduceDiv, Int.reduceToNat, Nat.add_zero, Nat.zero_add, List.contains_cons, List.contains_nil, Nat.reduceBEq, beq_self_eq_true, reduceCtorEq, and_true, true_and, and_false, false_and, not_true_eq_false, not_false_eq_true, Dv.mulOk_sz, fJ, lJ]) ?_
  have hx : xLc [1, 0] [2] (itR1 (xV 1)) (gN 2) (tY) (xCall f_bank_side (xsC (x2 ixD (xV 0) (xV 2)) (xsC (x2 ixD (xV 0) (x2 modD (x2 addD (xV 2) (xC (.int 1))) (xV 1))) (xsN)))) [some (.lst false J), some (.int P.length), none] = some (.lst true K) := by
    unfold xLc
    have ew : wipeD [2] (keepD [1, 0] 0 [some (.lst false J), some (.int P.length), none]) = [some (.lst false J), some (.int P.length), none] := by simp (config := {decide := true}) only [Dv.get, Dv.xV, Dv.xC, Dv.frz, Dv.frzs, Dv.flat, Dv.flats, Dv.clean, Dv.cleans, Dv.frzSlot, Dv.frz1, Dv.frzAt, Dv.put, Dv.addD, Dv.subD, Dv.mulD, Dv.fdivD, Dv.modD, Dv.negD, Dv.x2, Dv.x1, Dv.xsN, Dv.xsC, Dv.xTup, Dv.xLst, Dv.xCall, Dv.asB, Dv.tOf, Dv.tNot, Dv.tAnd, Dv.tOr, Dv.xB, Dv.xIf, Dv.cmpI, Dv.ltD, Dv.leD, Dv.gtD, Dv.geD, Dv.xAnd, Dv.xOr, Dv.xNot, Dv.sN, Dv.sSeq, Dv.sSet, Dv.sRet, Dv.sRetV, Dv.sIf, Dv.sBk, Dv.sCt, Dv.gN, Dv.gsN, Dv.gsC, Dv.gT, Dv.fnD, Dv.ixD, Dv.slD, Dv.pN, Dv.pI, Dv.xSl, Dv.lenD', Dv.intD, Dv.maxD, Dv.minD, Dv.allD, Dv.anyD, Dv.allB, Dv.listD, Dv.xF, Dv.isiD, Dv.eqD, Dv.neD, Dv.isND, Dv.notND, Dv.isN2, Dv.notN2, Dv.sApp, Dv.itL, Dv.itR1, Dv.itR2, Dv.rngL, Dv.zipL, Dv.zipO, Dv.itZ, Dv.enuL, Dv.enuO, Dv.itEn, Dv.wipeD, Dv.keepD, Dv.tY, Dv.sAsg, Dv.sPar, Dv.sPar3, Dv.sAugI, Dv.sDrop, Dv.at_20, Dv.at_21, Dv.at_30, Dv.at_31, Dv.at_32, Dv.at_40, Dv.at_41, Dv.at_42, Dv.at_43, Dv.at_10, Dv.frzs_ints, Dv.cleans_ints, Dv.le_sLine, Dv.sh_non, Dv.sh_bl, Dv.sh_int, Dv.sh_tup, Dv.sh_lst, Dv.eqo_int, Dv.eqo_bl, Dv.eqo_tup, Dv.eqo_lst, Dv.eqos_nil, Dv.eqos_cons, List.all_cons, List.all_nil, Dv.beq_tt, Dv.beq_ff, Dv.beq_tf, Dv.beq_ft, List.getElem?_cons_zero, List.getElem?_cons_succ, List.getElem?_nil, List.set_cons_zero, List.set_cons_succ, List.set_nil, Option.bind_some, Option.bind_none, Option.map_some, Option.map_none, if_true, if_false, ↓reduceIte, decide_true, decide_false, Bool.false_eq_true, Bool.true_and, Bool.and_true, Bool.false_and, Bool.and_false, Bool.not_true, Bool.not_false, Bool.true_or, Bool.or_true, Bool.false_or, Bool.or_false, List.cons_append, List.nil_append, List.length_cons, List.length_nil, List.map_cons, List.map_nil, List.replicate_succ, List.replicate_zero, Nat.reduceAdd, Nat.reduceSub, Nat.reduceLT, Nat.reduceEqDiff, Nat.reduceLeDiff, Int.reduceAdd, Int.reduceSub, Int.reduceMul, Int.reduceNeg, Int.reduceLT, Int.reduceLE, Int.reduceEq, Int.reduceMod, Int.reduceDiv, Int.reduceToNat, Nat.add_zero, Nat.zero_add, List.contains_cons, List.contains_nil, Nat.reduceBEq, beq_self_eq_true, reduceCtorEq, and_true, true_and, and_false, false_and, not_true_eq_false, not_false_eq_true, Dv.mulOk_sz, fJ]
    rw [rk, Option.bind_some, if_pos sl, fr, ew, r1']
    rfl
  unfold sRet
  rw [hx]
  rfl
end Sm

end
section
set_option Elab.async false
set_option linter.all false
set_option maxRecDepth 100000
/-! a drawn bank: round, small; helpers -/
namespace Sm
open Dv
theorem lcD_all {g : TGd} {t : ST} {e : SE} : ∀ {xs : List O} {τ : Sl}, (∀ x ∈ xs, ∃ τ1 k, g x τ = some τ1 ∧ t τ1 = some k ∧ (k = true → e τ1 = some (.bl true))) → ∃ bs, lcD g t e xs τ = some bs ∧ allD [.lst true bs] = some (.bl true)
  | [], τ, _ => ⟨[], rfl, rfl⟩
  | x :: xs, τ, h => by
    obtain ⟨τ1, k, h1, h2, h3⟩ := h x List.mem_cons_self
    obtain ⟨bs, e1, e2⟩ := lcD_all (xs := xs) (τ := τ) fun y hy => h y (List.mem_cons_of_mem _ hy)
    cases k with
    | false =>
      refine ⟨bs, ?_, e2⟩
      unfold lcD
      rw [h1, Option.bind_some, h2, Option.bind_some, if_neg Bool.false_ne_true]
      exact e1
    | true =>
      refine ⟨.bl true :: bs, ?_, ?_⟩
      · unfold lcD
        rw [h1, Option.bind_some, h2, Option.bind_some, if_pos rfl, h3 rfl, Option.bind_some, e1]
        rfl
      · show (Option.bind (Option.bind (some true) fun b => Option.bind (allB bs) fun cs => some (b :: cs)) fun cs => some (O.bl (cs.all id))) = _
        have e3 : (Option.bind (allB bs) fun cs => some (O.bl (cs.all id))) = some (.bl true) := e2
        cases c : allB bs with
        | none => rw [c] at e3; cases e3
        | some cs =>
          rw [c, Option.bind_some] at e3
          injection e3 with e3
          injection e3 with e3
          rw [Option.bind_some, Option.bind_some, Option.bind_some, List.all_cons, e3]
          rfl
theorem xF_1 {f : List O → Option O} {e : SE} {τ : Sl} {v r : O} (h : e τ = some v) (k : f [v] = some r) : xF f (xsC e xsN) τ = some r := by
  unfold xF xsC xsN
  rw [h]
  exact k
theorem not_tr {e : SE} {τ : Sl} (h : e τ = some (.bl true)) : Dv.tNot (tOf e) τ = some false := by
  unfold Dv.tNot tOf
  rw [h]; rfl
theorem pO_ix {P : List S2} {i : Nat} {b : S2} (hi : i < P.length) (h : P[(i + 1) % P.length]? = some b) : at? (P.map pO) ((i : Int) - (P.length : Int) + 1) = some (pO b) := by
  by_cases c : i + 1 = P.length
  · have e : (i : Int) - (P.length : Int) + 1 = ((0 : Nat) : Int) := by omega
    rw [e]
    rw [c, Nat.mod_self] at h
    exact pO_at h
  · rw [Nat.mod_eq_of_lt (by omega)] at h
    have hm : (P.map pO)[i + 1]? = some (pO b) := by rw [List.getElem?_map, h]; rfl
    unfold at?
    rw [if_neg (by omega), if_pos (by rw [List.length_map]; omega), List.length_map]
    have e : ((i : Int) - (P.length : Int) + 1 + (P.length : Int)).toNat = i + 1 := by omega
    rw [e]
    exact hm
theorem xCall_g {f : List O → Option O} {r : SEs} {τ : Sl} {xs : List O} {o : O} (h : r τ = some xs) (k : f (frzs xs) = some o) : xCall f r τ = some o := by
  unfold xCall
  rw [h]
  exact k
theorem neI_self (a : Int) : neD (.int a) (.int a) = some (.bl false) := by
  show (if (true && true) = true then some (O.bl (!(a == a))) else none) = _
  rw [beq_self_eq_true]; rfl
theorem pO_gd (L : List S2) (h : L.length ≤ sLine) (o : Bool) : gd 11 (.lst o (L.map pO)) = true := by
  show (decide ((L.map pO).length ≤ sLine) && (L.map pO).all (gd 10)) = true
  rw [Bool.and_eq_true, List.all_eq_true, List.length_map]
  refine ⟨decide_eq_true h, fun x hx => ?_⟩
  obtain ⟨p, _, rfl⟩ := List.mem_map.mp hx
  rfl
theorem shs_bd : ∀ c ∈ shs, ∀ d ∈ trl (0, 0) c, (-10 ≤ d.1 ∧ d.1 ≤ 10) ∧ (-10 ≤ d.2 ∧ d.2 ≤ 10) := by
  have h : shs.all (fun c => (trl (0, 0) c).all fun d => decide ((-10 ≤ d.1 ∧ d.1 ≤ 10) ∧ (-10 ≤ d.2 ∧ d.2 ≤ 10))) = true := by decide +kernel
  intro c hc d hd
  exact of_decide_eq_true (List.all_eq_true.mp (List.all_eq_true.mp h c hc) d hd)
theorem mul10 {a b : Int} {w : Int} (h : -10 ≤ a ∧ a ≤ 10) (k : -w ≤ b ∧ b ≤ w) (hw : w ≤ 100) : -1000 ≤ a * b ∧ a * b ≤ 1000 := by
  have h1 := Nat.mul_le_mul (show a.natAbs ≤ 10 by omega) (show b.natAbs ≤ 100 by omega)
  rw [← Int.natAbs_mul] at h1
  omega
/-- a drawn bank: round, of three to eight places, small -/
theorem bank_ok (o : Bool) (L : List Int) (hC : Cells 9 L) (w : Int) (w0 : 1 ≤ w) (w1 : w ≤ 100) : ∃ B : List S2, f__law_bank [.lst o (L.map O.int), .int w] = some (.lst true (B.map pO)) ∧ Rnd B ∧ 3 ≤ B.length ∧ B.length ≤ 8 ∧ ∀ c ∈ B, (-3000 ≤ c.1 ∧ c.1 ≤ 3000) ∧ (-3000 ≤ c.2 ∧ c.2 ≤ 3000) := by
  obtain ⟨x, y, p, q, h, r, n, e, mr, nr, bx, by_, bp, bq, D, h1, h2⟩ := bank_eq o L hC w w0 (by omega)
  obtain ⟨c, hc, rfl⟩ := lds_shs x y p q mr
  rw [List.length_map] at nr
  have et : trl h (c.map (lin x y p q)) = (trl (0, 0) c).map fun d => put2 h (lin x y p q d) := by
    have := trl_lin x y p q h (0, 0) c
    have z : put2 h (lin x y p q (0, 0)) = h := by unfold put2 lin; simp
    rwa [z] at this
  have hl : (trl h (c.map (lin x y p q))).length = c.length := by rw [trl_len, List.length_map]
  have lc : 3 ≤ c.length ∧ c.length ≤ 8 := by
    unfold shs at hc
    simp only [List.mem_cons, List.not_mem_nil, or_false] at hc
    rcases hc with rfl | rfl | rfl | rfl | rfl | rfl <;> simp
  have hn : n ≤ (trl h (c.map (lin x y p q))).length := by omega
  refine ⟨_, e, ?_, by rw [rot_len hn, hl]; exact lc.1, by rw [rot_len hn, hl]; exact lc.2, fun d hd => ?_⟩
  · refine rnd_rot ?_ hn
    rw [et]
    exact rnd_map (shs_rnd c hc) D h
  · have hd : d ∈ trl h (c.map (lin x y p q)) := by
      unfold rot at hd
      rcases List.mem_append.mp hd with k | k
      · exact List.mem_of_mem_drop k
      · exact List.mem_of_mem_take k
    rw [et] at hd
    obtain ⟨d', hd', rfl⟩ := List.mem_map.mp hd
    obtain ⟨k1, k2⟩ := shs_bd c hc d' hd'
    have m1 := mul10 k1 bx w1
    have m2 := mul10 k1 by_ w1
    have m3 := mul10 k2 bp w1
    have m4 := mul10 k2 bq w1
    unfold put2 lin
    simp only
    omega
end Sm

end
section
set_option Elab.async false
set_option linter.all false
set_option maxRecDepth 100000
namespace Sm
open Dv
/-! draws -/
theorem power_eq (n : Int) : ∃ p, f__law_power [.int n] = some (.int p) ∧ 0 ≤ p ∧ p < 1000003 := by
  have h1 : 0 ≤ n % 1000003 := Int.emod_nonneg _ (by decide)
  have h2 : n % 1000003 < 1000003 := Int.emod_lt_of_pos _ (by decide)
  have hp : powOk (n % 1000003) 5 = true := by
    unfold powOk
    rw [decide_eq_true (by omega), decide_eq_true (by omega), decide_eq_true (by omega)]; rfl
  refine ⟨(n % 1000003) ^ 5 % 1000003, ?_, Int.emod_nonneg _ (by decide), Int.emod_lt_of_pos _ (by decide)⟩
  unfold f__law_power s__law_power
  simp only [Dv.get, Dv.xV, Dv.xC, Dv.frz, Dv.frzs, Dv.flat, Dv.flats, Dv.clean, Dv.cleans, Dv.frzSlot, Dv.frz1, Dv.frzAt, Dv.put, Dv.addD, Dv.subD, Dv.mulD, Dv.fdivD, Dv.modD, Dv.negD, Dv.x2, Dv.x1, Dv.xsN, Dv.xsC, Dv.xTup, Dv.xLst, Dv.xCall, Dv.asB, Dv.tOf, Dv.tNot, Dv.tAnd, Dv.tOr, Dv.xB, Dv.xIf, Dv.cmpI, Dv.ltD, Dv.leD, Dv.gtD, Dv.geD, Dv.xAnd, Dv.xOr, Dv.xNot, Dv.sN, Dv.sSeq, Dv.sSet, Dv.sRet, Dv.sRetV, Dv.sIf, Dv.sBk, Dv.sCt, Dv.gN, Dv.gsN, Dv.gsC, Dv.gT, Dv.fnD, Dv.ixD, Dv.slD, Dv.pN, Dv.pI, Dv.xSl, Dv.lenD', Dv.intD, Dv.maxD, Dv.minD, Dv.allD, Dv.anyD, Dv.allB, Dv.listD, Dv.xF, Dv.isiD, Dv.eqD, Dv.neD, Dv.isND, Dv.notND, Dv.isN2, Dv.notN2, Dv.sApp, Dv.itL, Dv.itR1, Dv.itR2, Dv.rngL, Dv.zipL, Dv.zipO, Dv.itZ, Dv.enuL, Dv.enuO, Dv.itEn, Dv.wipeD, Dv.keepD, Dv.tY, Dv.sAsg, Dv.sPar, Dv.sPar3, Dv.sAugI, Dv.sDrop, Dv.le_sLine, Dv.sh_non, Dv.sh_bl, Dv.sh_int, Dv.sh_tup, Dv.sh_lst, Dv.eqo_int, Dv.eqo_bl, Dv.eqo_tup, Dv.eqo_lst, Dv.eqos_nil, Dv.eqos_cons, List.all_cons, List.all_nil, Dv.beq_tt, Dv.beq_ff, Dv.beq_tf, Dv.beq_ft, List.getElem?_cons_zero, List.getElem?_cons_succ, List.getElem?_nil, List.set_cons_zero, List.set_cons_succ, List.set_nil, Option.bind_some, Option.bind_none, Option.map_some, Option.map_none, if_true, if_false, ↓reduceIte, decide_true, decide_false, Bool.false_eq_true, Bool.true_and, Bool.and_true, Bool.false_and, Bool.and_false, Bool.not_true, Bool.not_false, Bool.true_or, Bool.or_true, Bool.false_or, Bool.or_false, List.cons_append, List.nil_append, List.length_cons, List.length_nil, List.map_cons, List.map_nil, List.replicate_succ, List.replicate_zero, Nat.reduceAdd, Nat.reduceSub, Nat.reduceLT, Nat.reduceEqDiff, Nat.reduceLeDiff, Int.reduceAdd, Int.reduceSub, Int.reduceMul, Int.reduceNeg, Int.reduceLT, Int.reduceLE, Int.reduceEq, Int.reduceMod, Int.reduceDiv, Int.reduceToNat, Nat.add_zero, Nat.zero_add, List.contains_cons, List.contains_nil, Nat.reduceBEq, beq_self_eq_true, reduceCtorEq, and_true, true_and, and_false, false_and, not_true_eq_false, not_false_eq_true, powD, hp]
/-- a list that the draws have made so far -/
def DrawL (m : Nat) (L : List Int) : Prop := L.length ≤ m ∧ ∀ x ∈ L, 0 ≤ x ∧ x < 1000003
theorem DrawL.add {m : Nat} {L : List Int} {x : Int} (h : DrawL m L) (h0 : 0 ≤ x) (h1 : x < 1000003) : DrawL (m + 1) (L ++ [x]) := by
  refine ⟨by rw [List.length_append]; exact Nat.succ_le_succ h.1, fun y hy => ?_⟩
  rcases List.mem_append.mp hy with hy | hy
  · exact h.2 y hy
  · rw [List.mem_singleton.mp hy]; exact ⟨h0, h1⟩
theorem DrawL.mono {m n : Nat} {L : List Int} (h : DrawL m L) (i : m ≤ n) : DrawL n L := ⟨Nat.le_trans h.1 i, h.2⟩
theorem map_app (L : List Int) (x : Int) : L.map O.int ++ [O.int x] = (L ++ [x]).map O.int := by rw [List.map_append]; rfl
theorem cell_eq (scr : O) (m c : Int) (L : List Int) (mix : Int) (o5 : Option O) (N : Nat) (hm : 0 ≤ m) (hm2 : m ≤ 1000) (hN : N ≤ 100) (hmix : 0 ≤ mix ∧ mix < 2147483647) (hL : DrawL (m.toNat + N) L) :
    ∃ (L' : List Int) (mix' : Int) (o5' : Option O), b2__law_draws [some scr, some (.int m), some (.lst true (L.map O.int)), some (.int mix), some (.int c), o5] =
      some (.nx [some scr, some (.int m), some (.lst true (L'.map O.int)), some (.int mix'), some (.int c), o5']) ∧ (0 ≤ mix' ∧ mix' < 2147483647) ∧ DrawL (m.toNat + (N + 1)) L' := by
  have hmul : mulOk mix 48271 = true := mul_ok (n := 2147483647) (m := 48271) (by unfold Bd; omega) (by decide)
  have hlen : L.length ≤ 1100 := by have := hL.1; omega
  have hmul2 : mulOk 1009 (L.length : Int) = true := mul_ok (n := 1009) (m := 1100) (by decide) (by unfold Bd; omega)
  have hpw : powD (.int 10) (.int 18) = some (.int 1000000000000000000) := rfl
  have hdv : divOk 1000003 = true := by decide
  obtain ⟨p, hp, hp0, hp1⟩ := power_eq (c + 1009 * (L.length : Int))
  -- the while: the rest is taken to pieces
  have whl : ∀ (k : Nat) (L : List Int) (r mx : Int), 0 ≤ r → DrawL (m.toNat + (N + 1)) L → m.toNat - L.length ≤ k →
      ∃ L' r', sWhl c1__law_draws b1__law_draws
        [some scr, some (.int m), some (.lst true (L.map O.int)), some (.int mx), some (.int c), some (.int r)] =
        some (.nx [some scr, some (.int m), some (.lst true (L'.map O.int)), some (.int mx), some (.int c), some (.int r')]) ∧ DrawL (m.toNat + (N + 1)) L' := by
    intro k
    induction k with
    | zero =>
      intro L r mx hr hL hk
      refine ⟨L, r, sWhl_end ?_, hL⟩
      have h2 : ¬ ((L.length : Int) < m) := by omega
      by_cases h1 : 0 < r
      · simp only [Dv.get, Dv.xV, Dv.xC, Dv.frz, Dv.frzs, Dv.flat, Dv.flats, Dv.clean, Dv.cleans, Dv.frzSlot, Dv.frz1, Dv.frzAt, Dv.put, Dv.addD, Dv.subD, Dv.mulD, Dv.fdivD, Dv.modD, Dv.negD, Dv.x2, Dv.x1, Dv.xsN, Dv.xsC, Dv.xTup, Dv.xLst, Dv.xCall, Dv.asB, Dv.tOf, Dv.tNot, Dv.tAnd, Dv.tOr, Dv.xB, Dv.xIf, Dv.cmpI, Dv.ltD, Dv.leD, Dv.gtD, Dv.geD, Dv.xAnd, Dv.xOr, Dv.xNot, Dv.sN, Dv.sSeq, Dv.sSet, Dv.sRet, Dv.sRetV, Dv.sIf, Dv.sBk, Dv.sCt, Dv.gN, Dv.gsN, Dv.gsC, Dv.gT, Dv.fnD, Dv.ixD, Dv.slD, Dv.pN, Dv.pI, Dv.xSl, Dv.lenD', Dv.intD, Dv.maxD, Dv.minD, Dv.allD, Dv.anyD, Dv.allB, Dv.listD, Dv.xF, Dv.isiD, Dv.eqD, Dv.neD, Dv.isND, Dv.notND, Dv.isN2, Dv.notN2, Dv.sApp, Dv.itL, Dv.itR1, Dv.itR2, Dv.rngL, Dv.zipL, Dv.zipO, Dv.itZ, Dv.enuL, Dv.enuO, Dv.itEn, Dv.wipeD, Dv.keepD, Dv.tY, Dv.sAsg, Dv.sPar, Dv.sPar3, Dv.sAugI, Dv.sDrop, Dv.le_sLine, Dv.sh_non, Dv.sh_bl, Dv.sh_int, Dv.sh_tup, Dv.sh_lst, Dv.eqo_int, Dv.eqo_bl, Dv.eqo_tup, Dv.eqo_lst, Dv.eqos_nil, Dv.eqos_cons, List.all_cons, List.all_nil, Dv.beq_tt, Dv.beq_ff, Dv.beq_tf, Dv.beq_ft, List.getElem?_cons_zero, List.getElem?_cons_succ, List.getElem?_nil, List.set_cons_zero, List.set_cons_succ, List.set_nil, Option.bind_some, Option.bind_none, Option.map_some, Option.map_none, if_true, if_false, ↓reduceIte, decide_true, decide_false, Bool.false_eq_true, Bool.true_and, Bool.and_true, Bool.false_and, Bool.and_false, Bool.not_true, Bool.not_false, Bool.true_or, Bool.or_true, Bool.false_or, Bool.or_false, List.cons_append, List.nil_append, List.length_cons, List.length_nil, List.map_cons, List.map_nil, List.replicate_succ, List.replicate_zero, Nat.reduceAdd, Nat.reduceSub, Nat.reduceLT, Nat.reduceEqDiff, Nat.reduceLeDiff, Int.reduceAdd, Int.reduceSub, Int.reduceMul, Int.reduceNeg, Int.reduceLT, Int.reduceLE, Int.reduceEq, Int.reduceMod, Int.reduceDiv, Int.reduceToNat, Nat.add_zero, Nat.zero_add, List.contains_cons, List.contains_nil, Nat.reduceBEq, beq_self_eq_true, reduceCtorEq, and_true, true_and, and_false, false_and, not_true_eq_false, not_false_eq_true, c1__law_draws, frzs_ints, List.length_map, h1, h2]
      · simp only [Dv.get, Dv.xV, Dv.xC, Dv.frz, Dv.frzs, Dv.flat, Dv.flats, Dv.clean, Dv.cleans, Dv.frzSlot, Dv.frz1, Dv.frzAt, Dv.put, Dv.addD, Dv.subD, Dv.mulD, Dv.fdivD, Dv.modD, Dv.negD, Dv.x2, Dv.x1, Dv.xsN, Dv.xsC, Dv.xTup, Dv.xLst, Dv.xCall, Dv.asB, Dv.tOf, Dv.tNot, Dv.tAnd, Dv.tOr, Dv.xB, Dv.xIf, Dv.cmpI, Dv.ltD, Dv.leD, Dv.gtD, Dv.geD, Dv.xAnd, Dv.xOr, Dv.xNot, Dv.sN, Dv.sSeq, Dv.sSet, Dv.sRet, Dv.sRetV, Dv.sIf, Dv.sBk, Dv.sCt, Dv.gN, Dv.gsN, Dv.gsC, Dv.gT, Dv.fnD, Dv.ixD, Dv.slD, Dv.pN, Dv.pI, Dv.xSl, Dv.lenD', Dv.intD, Dv.maxD, Dv.minD, Dv.allD, Dv.anyD, Dv.allB, Dv.listD, Dv.xF, Dv.isiD, Dv.eqD, Dv.neD, Dv.isND, Dv.notND, Dv.isN2, Dv.notN2, Dv.sApp, Dv.itL, Dv.itR1, Dv.itR2, Dv.rngL, Dv.zipL, Dv.zipO, Dv.itZ, Dv.enuL, Dv.enuO, Dv.itEn, Dv.wipeD, Dv.keepD, Dv.tY, Dv.sAsg, Dv.sPar, Dv.sPar3, Dv.sAugI, Dv.sDrop, Dv.le_sLine, Dv.sh_non, Dv.sh_bl, Dv.sh_int, Dv.sh_tup, Dv.sh_lst, Dv.eqo_int, Dv.eqo_bl, Dv.eqo_tup, Dv.eqo_lst, Dv.eqos_nil, Dv.eqos_cons, List.all_cons, List.all_nil, Dv.beq_tt, Dv.beq_ff, Dv.beq_tf, Dv.beq_ft, List.getElem?_cons_zero, List.getElem?_cons_succ, List.getElem?_nil, List.set_cons_zero, List.set_cons_succ, List.set_nil, Option.bind_some, Option.bind_none, Option.map_some, Option.map_none, if_true, if_false, ↓reduceIte, decide_true, decide_false, Bool.false_eq_true, Bool.true_and, Bool.and_true, Bool.false_and, Bool.and_false, Bool.not_true, Bool.not_false, Bool.true_or, Bool.or_true, Bool.false_or, Bool.or_false, List.cons_append, List.nil_append, List.length_cons, List.length_nil, List.map_cons, List.map_nil, List.replicate_succ, List.replicate_zero, Nat.reduceAdd, Nat.reduceSub, Nat.reduceLT, Nat.reduceEqDiff, Nat.reduceLeDiff, Int.reduceAdd, Int.reduceSub, Int.reduceMul, Int.reduceNeg, Int.reduceLT, Int.reduceLE, Int.reduceEq, Int.reduceMod, Int.reduceDiv, Int.reduceToNat, Nat.add_zero, Nat.zero_add, List.contains_cons, List.contains_nil, Nat.reduceBEq, beq_self_eq_true, reduceCtorEq, and_true, true_and, and_false, false_and, not_true_eq_false, not_false_eq_true, c1__law_draws, frzs_ints, List.length_map, h1, h2]
    | succ k ih =>
      intro L r mx hr hL hk
      by_cases h1 : 0 < r
      · by_cases h2 : (L.length : Int) < m
        · have hx0 : 0 ≤ r % 1000003 := Int.emod_nonneg _ (by decide)
          have hx1 : r % 1000003 < 1000003 := Int.emod_lt_of_pos _ (by decide)
          have hL1 : L.length < 1000 := by omega
          have hsz : L.length < sLine := by show L.length < 16777216; omega
          have hL2 : DrawL (m.toNat + (N + 1)) (L ++ [r % 1000003]) := by
            refine ⟨by rw [List.length_append]; show L.length + 1 ≤ _; omega, (hL.add hx0 hx1).2⟩
          obtain ⟨L', r', h3, h4⟩ := ih (L ++ [r % 1000003]) (r / 1000003) mx (Int.ediv_nonneg hr (by decide)) hL2 (by rw [List.length_append]; show m.toNat - (L.length + 1) ≤ k; omega)
          refine ⟨L', r', sWhl_turn ?_ ?_ h3, h4⟩
          · simp only [Dv.get, Dv.xV, Dv.xC, Dv.frz, Dv.frzs, Dv.flat, Dv.flats, Dv.clean, Dv.cleans, Dv.frzSlot, Dv.frz1, Dv.frzAt, Dv.put, Dv.addD, Dv.subD, Dv.mulD, Dv.fdivD, Dv.modD, Dv.negD, Dv.x2, Dv.x1, Dv.xsN, Dv.xsC, Dv.xTup, Dv.xLst, Dv.xCall, Dv.asB, Dv.tOf, Dv.tNot, Dv.tAnd, Dv.tOr, Dv.xB, Dv.xIf, Dv.cmpI, Dv.ltD, Dv.leD, Dv.gtD, Dv.geD, Dv.xAnd, Dv.xOr, Dv.xNot, Dv.sN, Dv.sSeq, Dv.sSet, Dv.sRet, Dv.sRetV, Dv.sIf, Dv.sBk, Dv.sCt, Dv.gN, Dv.gsN, Dv.gsC, Dv.gT, Dv.fnD, Dv.ixD, Dv.slD, Dv.pN, Dv.pI, Dv.xSl, Dv.lenD', Dv.intD, Dv.maxD, Dv.minD, Dv.allD, Dv.anyD, Dv.allB, Dv.listD, Dv.xF, Dv.isiD, Dv.eqD, Dv.neD, Dv.isND, Dv.notND, Dv.isN2, Dv.notN2, Dv.sApp, Dv.itL, Dv.itR1, Dv.itR2, Dv.rngL, Dv.zipL, Dv.zipO, Dv.itZ, Dv.enuL, Dv.enuO, Dv.itEn, Dv.wipeD, Dv.keepD, Dv.tY, Dv.sAsg, Dv.sPar, Dv.sPar3, Dv.sAugI, Dv.sDrop, Dv.le_sLine, Dv.sh_non, Dv.sh_bl, Dv.sh_int, Dv.sh_tup, Dv.sh_lst, Dv.eqo_int, Dv.eqo_bl, Dv.eqo_tup, Dv.eqo_lst, Dv.eqos_nil, Dv.eqos_cons, List.all_cons, List.all_nil, Dv.beq_tt, Dv.beq_ff, Dv.beq_tf, Dv.beq_ft, List.getElem?_cons_zero, List.getElem?_cons_succ, List.getElem?_nil, List.set_cons_zero, List.set_cons_succ, List.set_nil, Option.bind_some, Option.bind_none, Option.map_some, Option.map_none, if_true, if_false, ↓reduceIte, decide_true, decide_false, Bool.false_eq_true, Bool.true_and, Bool.and_true, Bool.false_and, Bool.and_false, Bool.not_true, Bool.not_false, Bool.true_or, Bool.or_true, Bool.false_or, Bool.or_false, List.cons_append, List.nil_append, List.length_cons, List.length_nil, List.map_cons, List.map_nil, List.replicate_succ, List.replicate_zero, Nat.reduceAdd, Nat.reduceSub, Nat.reduceLT, Nat.reduceEqDiff, Nat.reduceLeDiff, Int.reduceAdd, Int.reduceSub, Int.reduceMul, Int.reduceNeg, Int.reduceLT, Int.reduceLE, Int.reduceEq, Int.reduceMod, Int.reduceDiv, Int.reduceToNat, Nat.add_zero, Nat.zero_add, List.contains_cons, List.contains_nil, Nat.reduceBEq, beq_self_eq_true, reduceCtorEq, and_true, true_and, and_false, false_and, not_true_eq_false, not_false_eq_true, c1__law_draws, frzs_ints, List.length_map, h1, h2]
          · simp only [Dv.get, Dv.xV, Dv.xC, Dv.frz, Dv.frzs, Dv.flat, Dv.flats, Dv.clean, Dv.cleans, Dv.frzSlot, Dv.frz1, Dv.frzAt, Dv.put, Dv.addD, Dv.subD, Dv.mulD, Dv.fdivD, Dv.modD, Dv.negD, Dv.x2, Dv.x1, Dv.xsN, Dv.xsC, Dv.xTup, Dv.xLst, Dv.xCall, Dv.asB, Dv.tOf, Dv.tNot, Dv.tAnd, Dv.tOr, Dv.xB, Dv.xIf, Dv.cmpI, Dv.ltD, Dv.leD, Dv.gtD, Dv.geD, Dv.xAnd, Dv.xOr, Dv.xNot, Dv.sN, Dv.sSeq, Dv.sSet, Dv.sRet, Dv.sRetV, Dv.sIf, Dv.sBk, Dv.sCt, Dv.gN, Dv.gsN, Dv.gsC, Dv.gT, Dv.fnD, Dv.ixD, Dv.slD, Dv.pN, Dv.pI, Dv.xSl, Dv.lenD', Dv.intD, Dv.maxD, Dv.minD, Dv.allD, Dv.anyD, Dv.allB, Dv.listD, Dv.xF, Dv.isiD, Dv.eqD, Dv.neD, Dv.isND, Dv.notND, Dv.isN2, Dv.notN2, Dv.sApp, Dv.itL, Dv.itR1, Dv.itR2, Dv.rngL, Dv.zipL, Dv.zipO, Dv.itZ, Dv.enuL, Dv.enuO, Dv.itEn, Dv.wipeD, Dv.keepD, Dv.tY, Dv.sAsg, Dv.sPar, Dv.sPar3, Dv.sAugI, Dv.sDrop, Dv.le_sLine, Dv.sh_non, Dv.sh_bl, Dv.sh_int, Dv.sh_tup, Dv.sh_lst, Dv.eqo_int, Dv.eqo_bl, Dv.eqo_tup, Dv.eqo_lst, Dv.eqos_nil, Dv.eqos_cons, List.all_cons, List.all_nil, Dv.beq_tt, Dv.beq_ff, Dv.beq_tf, Dv.beq_ft, List.getElem?_cons_zero, List.getElem?_cons_succ, List.getElem?_nil, List.set_cons_zero, List.set_cons_succ, List.set_nil, Option.bind_some, Option.bind_none, Option.map_some, Option.map_none, if_true, if_false, ↓reduceIte, decide_true, decide_false, Bool.false_eq_true, Bool.true_and, Bool.and_true, Bool.false_and, Bool.and_false, Bool.not_true, Bool.not_false, Bool.true_or, Bool.or_true, Bool.false_or, Bool.or_false, List.cons_append, List.nil_append, List.length_cons, List.length_nil, List.map_cons, List.map_nil, List.replicate_succ, List.replicate_zero, Nat.reduceAdd, Nat.reduceSub, Nat.reduceLT, Nat.reduceEqDiff, Nat.reduceLeDiff, Int.reduceAdd, Int.reduceSub, Int.reduceMul, Int.reduceNeg, Int.reduceLT, Int.reduceLE, Int.reduceEq, Int.reduceMod, Int.reduceDiv, Int.reduceToNat, Nat.add_zero, Nat.zero_add, List.contains_cons, List.contains_nil, Nat.reduceBEq, beq_self_eq_true, reduceCtorEq, and_true, true_and, and_false, false_and, not_true_eq_false, not_false_eq_true, b1__law_draws, frzs_ints, List.length_map, hsz, hdv, map_app]
        · refine ⟨L, r, sWhl_end ?_, hL⟩
          simp only [Dv.get, Dv.xV, Dv.xC, Dv.frz, Dv.frzs, Dv.flat, Dv.flats, Dv.clean, Dv.cleans, Dv.frzSlot, Dv.frz1, Dv.frzAt, Dv.put, Dv.addD, Dv.subD, Dv.mulD, Dv.fdivD, Dv.modD, Dv.negD, Dv.x2, Dv.x1, Dv.xsN, Dv.xsC, Dv.xTup, Dv.xLst, Dv.xCall, Dv.asB, Dv.tOf, Dv.tNot, Dv.tAnd, Dv.tOr, Dv.xB, Dv.xIf, Dv.cmpI, Dv.ltD, Dv.leD, Dv.gtD, Dv.geD, Dv.xAnd, Dv.xOr, Dv.xNot, Dv.sN, Dv.sSeq, Dv.sSet, Dv.sRet, Dv.sRetV, Dv.sIf, Dv.sBk, Dv.sCt, Dv.gN, Dv.gsN, Dv.gsC, Dv.gT, Dv.fnD, Dv.ixD, Dv.slD, Dv.pN, Dv.pI, Dv.xSl, Dv.lenD', Dv.intD, Dv.maxD, Dv.minD, Dv.allD, Dv.anyD, Dv.allB, Dv.listD, Dv.xF, Dv.isiD, Dv.eqD, Dv.neD, Dv.isND, Dv.notND, Dv.isN2, Dv.notN2, Dv.sApp, Dv.itL, Dv.itR1, Dv.itR2, Dv.rngL, Dv.zipL, Dv.zipO, Dv.itZ, Dv.enuL, Dv.enuO, Dv.itEn, Dv.wipeD, Dv.keepD, Dv.tY, Dv.sAsg, Dv.sPar, Dv.sPar3, Dv.sAugI, Dv.sDrop, Dv.le_sLine, Dv.sh_non, Dv.sh_bl, Dv.sh_int, Dv.sh_tup, Dv.sh_lst, Dv.eqo_int, Dv.eqo_bl, Dv.eqo_tup, Dv.eqo_lst, Dv.eqos_nil, Dv.eqos_cons, List.all_cons, List.all_nil, Dv.beq_tt, Dv.beq_ff, Dv.beq_tf, Dv.beq_ft, List.getElem?_cons_zero, List.getElem?_cons_succ, List.getElem?_nil, List.set_cons_zero, List.set_cons_succ, List.set_nil, Option.bind_some, Option.bind_none, Option.map_some, Option.map_none, if_true, if_false, ↓reduceIte, decide_true, decide_false, Bool.false_eq_true, Bool.true_and, Bool.and_true, Bool.false_and, Bool.and_false, Bool.not_true, Bool.not_false, Bool.true_or, Bool.or_true, Bool.false_or, Bool.or_false, List.cons_append, List.nil_append, List.length_cons, List.length_nil, List.map_cons, List.map_nil, List.replicate_succ, List.replicate_zero, Nat.reduceAdd, Nat.reduceSub, Nat.reduceLT, Nat.reduceEqDiff, Nat.reduceLeDiff, Int.reduceAdd, Int.reduceSub, Int.reduceMul, Int.reduceNeg, Int.reduceLT, Int.reduceLE, Int.reduceEq, Int.reduceMod, Int.reduceDiv, Int.reduceToNat, Nat.add_zero, Nat.zero_add, List.contains_cons, List.contains_nil, Nat.reduceBEq, beq_self_eq_true, reduceCtorEq, and_true, true_and, and_false, false_and, not_true_eq_false, not_false_eq_true, c1__law_draws, frzs_ints, List.length_map, h1, h2]
      · refine ⟨L, r, sWhl_end ?_, hL⟩
        simp only [Dv.get, Dv.xV, Dv.xC, Dv.frz, Dv.frzs, Dv.flat, Dv.flats, Dv.clean, Dv.cleans, Dv.frzSlot, Dv.frz1, Dv.frzAt, Dv.put, Dv.addD, Dv.subD, Dv.mulD, Dv.fdivD, Dv.modD, Dv.negD, Dv.x2, Dv.x1, Dv.xsN, Dv.xsC, Dv.xTup, Dv.xLst, Dv.xCall, Dv.asB, Dv.tOf, Dv.tNot, Dv.tAnd, Dv.tOr, Dv.xB, Dv.xIf, Dv.cmpI, Dv.ltD, Dv.leD, Dv.gtD, Dv.geD, Dv.xAnd, Dv.xOr, Dv.xNot, Dv.sN, Dv.sSeq, Dv.sSet, Dv.sRet, Dv.sRetV, Dv.sIf, Dv.sBk, Dv.sCt, Dv.gN, Dv.gsN, Dv.gsC, Dv.gT, Dv.fnD, Dv.ixD, Dv.slD, Dv.pN, Dv.pI, Dv.xSl, Dv.lenD', Dv.intD, Dv.maxD, Dv.minD, Dv.allD, Dv.anyD, Dv.allB, Dv.listD, Dv.xF, Dv.isiD, Dv.eqD, Dv.neD, Dv.isND, Dv.notND, Dv.isN2, Dv.notN2, Dv.sApp, Dv.itL, Dv.itR1, Dv.itR2, Dv.rngL, Dv.zipL, Dv.zipO, Dv.itZ, Dv.enuL, Dv.enuO, Dv.itEn, Dv.wipeD, Dv.keepD, Dv.tY, Dv.sAsg, Dv.sPar, Dv.sPar3, Dv.sAugI, Dv.sDrop, Dv.le_sLine, Dv.sh_non, Dv.sh_bl, Dv.sh_int, Dv.sh_tup, Dv.sh_lst, Dv.eqo_int, Dv.eqo_bl, Dv.eqo_tup, Dv.eqo_lst, Dv.eqos_nil, Dv.eqos_cons, List.all_cons, List.all_nil, Dv.beq_tt, Dv.beq_ff, Dv.beq_tf, Dv.beq_ft, List.getElem?_cons_zero, List.getElem?_cons_succ, List.getElem?_nil, List.set_cons_zero, List.set_cons_succ, List.set_nil, Option.bind_some, Option.bind_none, Option.map_some, Option.map_none, if_true, if_false, ↓reduceIte, decide_true, decide_false, Bool.false_eq_true, Bool.true_and, Bool.and_true, Bool.false_and, Bool.and_false, Bool.not_true, Bool.not_false, Bool.true_or, Bool.or_true, Bool.false_or, Bool.or_false, List.cons_append, List.nil_append, List.length_cons, List.length_nil, List.map_cons, List.map_nil, List.replicate_succ, List.replicate_zero, Nat.reduceAdd, Nat.reduceSub, Nat.reduceLT, Nat.reduceEqDiff, Nat.reduceLeDiff, Int.reduceAdd, Int.reduceSub, Int.reduceMul, Int.reduceNeg, Int.reduceLT, Int.reduceLE, Int.reduceEq, Int.reduceMod, Int.reduceDiv, Int.reduceToNat, Nat.add_zero, Nat.zero_add, List.contains_cons, List.contains_nil, Nat.reduceBEq, beq_self_eq_true, reduceCtorEq, and_true, true_and, and_false, false_and, not_true_eq_false, not_false_eq_true, c1__law_draws, frzs_ints, List.length_map, h1]
  have hmx : 0 ≤ (mix * 48271 + c) % 2147483647 ∧ (mix * 48271 + c) % 2147483647 < 2147483647 := ⟨Int.emod_nonneg _ (by decide), Int.emod_lt_of_pos _ (by decide)⟩
  obtain ⟨A, habs, hA⟩ : ∃ A, absD [.int c] = some (.int A) ∧ 0 ≤ A := ⟨_, rfl, by split <;> omega⟩
  by_cases hc : A < 1000000000000000000
  · have hsz : L.length < sLine := by show L.length < 16777216; omega
    obtain ⟨L', r', h3, h4⟩ := whl _ (L ++ [p]) 0 ((mix * 48271 + c) % 2147483647) (by decide) (DrawL.mono (hL.add hp0 hp1) (by omega)) (Nat.le_refl _)
    refine ⟨L', (mix * 48271 + c) % 2147483647, some (.int r'), ?_, hmx, h4⟩
    simp only [Dv.get, Dv.xV, Dv.xC, Dv.frz, Dv.frzs, Dv.flat, Dv.flats, Dv.clean, Dv.cleans, Dv.frzSlot, Dv.frz1, Dv.frzAt, Dv.put, Dv.addD, Dv.subD, Dv.mulD, Dv.fdivD, Dv.modD, Dv.negD, Dv.x2, Dv.x1, Dv.xsN, Dv.xsC, Dv.xTup, Dv.xLst, Dv.xCall, Dv.asB, Dv.tOf, Dv.tNot, Dv.tAnd, Dv.tOr, Dv.xB, Dv.xIf, Dv.cmpI, Dv.ltD, Dv.leD, Dv.gtD, Dv.geD, Dv.xAnd, Dv.xOr, Dv.xNot, Dv.sN, Dv.sSeq, Dv.sSet, Dv.sRet, Dv.sRetV, Dv.sIf, Dv.sBk, Dv.sCt, Dv.gN, Dv.gsN, Dv.gsC, Dv.gT, Dv.fnD, Dv.ixD, Dv.slD, Dv.pN, Dv.pI, Dv.xSl, Dv.lenD', Dv.intD, Dv.maxD, Dv.minD, Dv.allD, Dv.anyD, Dv.allB, Dv.listD, Dv.xF, Dv.isiD, Dv.eqD, Dv.neD, Dv.isND, Dv.notND, Dv.isN2, Dv.notN2, Dv.sApp, Dv.itL, Dv.itR1, Dv.itR2, Dv.rngL, Dv.zipL, Dv.zipO, Dv.itZ, Dv.enuL, Dv.enuO, Dv.itEn, Dv.wipeD, Dv.keepD, Dv.tY, Dv.sAsg, Dv.sPar, Dv.sPar3, Dv.sAugI, Dv.sDrop, Dv.le_sLine, Dv.sh_non, Dv.sh_bl, Dv.sh_int, Dv.sh_tup, Dv.sh_lst, Dv.eqo_int, Dv.eqo_bl, Dv.eqo_tup, Dv.eqo_lst, Dv.eqos_nil, Dv.eqos_cons, List.all_cons, List.all_nil, Dv.beq_tt, Dv.beq_ff, Dv.beq_tf, Dv.beq_ft, List.getElem?_cons_zero, List.getElem?_cons_succ, List.getElem?_nil, List.set_cons_zero, List.set_cons_succ, List.set_nil, Option.bind_some, Option.bind_none, Option.map_some, Option.map_none, if_true, if_false, ↓reduceIte, decide_true, decide_false, Bool.false_eq_true, Bool.true_and, Bool.and_true, Bool.false_and, Bool.and_false, Bool.not_true, Bool.not_false, Bool.true_or, Bool.or_true, Bool.false_or, Bool.or_false, List.cons_append, List.nil_append, List.length_cons, List.length_nil, List.map_cons, List.map_nil, List.replicate_succ, List.replicate_zero, Nat.reduceAdd, Nat.reduceSub, Nat.reduceLT, Nat.reduceEqDiff, Nat.reduceLeDiff, Int.reduceAdd, Int.reduceSub, Int.reduceMul, Int.reduceNeg, Int.reduceLT, Int.reduceLE, Int.reduceEq, Int.reduceMod, Int.reduceDiv, Int.reduceToNat, Nat.add_zero, Nat.zero_add, List.contains_cons, List.contains_nil, Nat.reduceBEq, beq_self_eq_true, reduceCtorEq, and_true, true_and, and_false, false_and, not_true_eq_false, not_false_eq_true, b2__law_draws, frzs_ints, List.length_map, habs, hmul, hmul2, hpw, hc, hp, hsz, map_app]
    exact h3
  · obtain ⟨L', r', h3, h4⟩ := whl _ L A ((mix * 48271 + c) % 2147483647) hA (hL.mono (by omega)) (Nat.le_refl _)
    refine ⟨L', (mix * 48271 + c) % 2147483647, some (.int r'), ?_, hmx, h4⟩
    simp only [Dv.get, Dv.xV, Dv.xC, Dv.frz, Dv.frzs, Dv.flat, Dv.flats, Dv.clean, Dv.cleans, Dv.frzSlot, Dv.frz1, Dv.frzAt, Dv.put, Dv.addD, Dv.subD, Dv.mulD, Dv.fdivD, Dv.modD, Dv.negD, Dv.x2, Dv.x1, Dv.xsN, Dv.xsC, Dv.xTup, Dv.xLst, Dv.xCall, Dv.asB, Dv.tOf, Dv.tNot, Dv.tAnd, Dv.tOr, Dv.xB, Dv.xIf, Dv.cmpI, Dv.ltD, Dv.leD, Dv.gtD, Dv.geD, Dv.xAnd, Dv.xOr, Dv.xNot, Dv.sN, Dv.sSeq, Dv.sSet, Dv.sRet, Dv.sRetV, Dv.sIf, Dv.sBk, Dv.sCt, Dv.gN, Dv.gsN, Dv.gsC, Dv.gT, Dv.fnD, Dv.ixD, Dv.slD, Dv.pN, Dv.pI, Dv.xSl, Dv.lenD', Dv.intD, Dv.maxD, Dv.minD, Dv.allD, Dv.anyD, Dv.allB, Dv.listD, Dv.xF, Dv.isiD, Dv.eqD, Dv.neD, Dv.isND, Dv.notND, Dv.isN2, Dv.notN2, Dv.sApp, Dv.itL, Dv.itR1, Dv.itR2, Dv.rngL, Dv.zipL, Dv.zipO, Dv.itZ, Dv.enuL, Dv.enuO, Dv.itEn, Dv.wipeD, Dv.keepD, Dv.tY, Dv.sAsg, Dv.sPar, Dv.sPar3, Dv.sAugI, Dv.sDrop, Dv.le_sLine, Dv.sh_non, Dv.sh_bl, Dv.sh_int, Dv.sh_tup, Dv.sh_lst, Dv.eqo_int, Dv.eqo_bl, Dv.eqo_tup, Dv.eqo_lst, Dv.eqos_nil, Dv.eqos_cons, List.all_cons, List.all_nil, Dv.beq_tt, Dv.beq_ff, Dv.beq_tf, Dv.beq_ft, List.getElem?_cons_zero, List.getElem?_cons_succ, List.getElem?_nil, List.set_cons_zero, List.set_cons_succ, List.set_nil, Option.bind_some, Option.bind_none, Option.map_some, Option.map_none, if_true, if_false, ↓reduceIte, decide_true, decide_false, Bool.false_eq_true, Bool.true_and, Bool.and_true, Bool.false_and, Bool.and_false, Bool.not_true, Bool.not_false, Bool.true_or, Bool.or_true, Bool.false_or, Bool.or_false, List.cons_append, List.nil_append, List.length_cons, List.length_nil, List.map_cons, List.map_nil, List.replicate_succ, List.replicate_zero, Nat.reduceAdd, Nat.reduceSub, Nat.reduceLT, Nat.reduceEqDiff, Nat.reduceLeDiff, Int.reduceAdd, Int.reduceSub, Int.reduceMul, Int.reduceNeg, Int.reduceLT, Int.reduceLE, Int.reduceEq, Int.reduceMod, Int.reduceDiv, Int.reduceToNat, Nat.add_zero, Nat.zero_add, List.contains_cons, List.contains_nil, Nat.reduceBEq, beq_self_eq_true, reduceCtorEq, and_true, true_and, and_false, false_and, not_true_eq_false, not_false_eq_true, b2__law_draws, frzs_ints, List.length_map, habs, hmul, hmul2, hpw, hc, map_app]
    exact h3
theorem draws_eq (ns : List Int) (m : Int) (hm : 0 ≤ m) (hm2 : m ≤ 1000) : ∃ L : List Int, f__law_draws [.scr ns, .int m] = some (.lst true (L.map O.int)) ∧ m ≤ L.length ∧ DrawL (m.toNat + 63) L := by
  have hcut : (cut ns none (some 63)).length ≤ 63 := by
    unfold cut sIx
    rw [List.length_take, List.length_drop]
    simp
    omega
  -- the first loop
  have l1 : ∀ (cs : List Int) (L : List Int) (mix : Int) (o4 o5 : Option O) (N : Nat), N + cs.length ≤ 63 → (0 ≤ mix ∧ mix < 2147483647) → DrawL (m.toNat + N) L →
      ∃ L' mix' o4' o5', forD (gN 4) b2__law_draws (cs.map O.int) [some (.scr ns), some (.int m), some (.lst true (L.map O.int)), some (.int mix), o4, o5] =
        some (.nx [some (.scr ns), some (.int m), some (.lst true (L'.map O.int)), some (.int mix'), o4', o5']) ∧ (0 ≤ mix' ∧ mix' < 2147483647) ∧ DrawL (m.toNat + 63) L' := by
    intro cs
    induction cs with
    | nil => exact fun L mix o4 o5 N hN hmix hL => ⟨L, mix, o4, o5, rfl, hmix, hL.mono (by omega)⟩
    | cons c cs ih =>
      intro L mix o4 o5 N hN hmix hL
      rw [List.length_cons] at hN
      obtain ⟨L1, mix1, o1, h1, hm1, hL1⟩ := cell_eq (.scr ns) m c L mix o5 N hm hm2 (by omega) hmix hL
      obtain ⟨L2, mix2, o3, o2, h2, hm2, hL2⟩ := ih L1 mix1 (some (.int c)) o1 (N + 1) (by omega) hm1 hL1
      refine ⟨L2, mix2, o3, o2, ?_, hm2, hL2⟩
      rw [List.map_cons, forD_cons (τ1 := [some (.scr ns), some (.int m), some (.lst true (L.map O.int)), some (.int mix), some (.int c), o5]) rfl h1]
      exact h2
  -- the second one
  have l2 : ∀ (k : Nat) (L : List Int) (mix : Int) (o4 o5 : Option O), m.toNat - L.length ≤ k → (0 ≤ mix ∧ mix < 2147483647) → DrawL (m.toNat + 63) L →
      ∃ L' mix' o4' o5', sWhl c2__law_draws b3__law_draws [some (.scr ns), some (.int m), some (.lst true (L.map O.int)), some (.int mix), o4, o5] =
        some (.nx [some (.scr ns), some (.int m), some (.lst true (L'.map O.int)), some (.int mix'), o4', o5']) ∧ m ≤ L'.length ∧ DrawL (m.toNat + 63) L' := by
    intro k
    induction k with
    | zero =>
      intro L mix o4 o5 hk hmix hL
      have h2 : ¬ ((L.length : Int) < m) := by omega
      refine ⟨L, mix, o4, o5, sWhl_end ?_, by omega, hL⟩
      simp only [Dv.get, Dv.xV, Dv.xC, Dv.frz, Dv.frzs, Dv.flat, Dv.flats, Dv.clean, Dv.cleans, Dv.frzSlot, Dv.frz1, Dv.frzAt, Dv.put, Dv.addD, Dv.subD, Dv.mulD, Dv.fdivD, Dv.modD, Dv.negD, Dv.x2, Dv.x1, Dv.xsN, Dv.xsC, Dv.xTup, Dv.xLst, Dv.xCall, Dv.asB, Dv.tOf, Dv.tNot, Dv.tAnd, Dv.tOr, Dv.xB, Dv.xIf, Dv.cmpI, Dv.ltD, Dv.leD, Dv.gtD, Dv.geD, Dv.xAnd, Dv.xOr, Dv.xNot, Dv.sN, Dv.sSeq, Dv.sSet, Dv.sRet, Dv.sRetV, Dv.sIf, Dv.sBk, Dv.sCt, Dv.gN, Dv.gsN, Dv.gsC, Dv.gT, Dv.fnD, Dv.ixD, Dv.slD, Dv.pN, Dv.pI, Dv.xSl, Dv.lenD', Dv.intD, Dv.maxD, Dv.minD, Dv.allD, Dv.anyD, Dv.allB, Dv.listD, Dv.xF, Dv.isiD, Dv.eqD, Dv.neD, Dv.isND, Dv.notND, Dv.isN2, Dv.notN2, Dv.sApp, Dv.itL, Dv.itR1, Dv.itR2, Dv.rngL, Dv.zipL, Dv.zipO, Dv.itZ, Dv.enuL, Dv.enuO, Dv.itEn, Dv.wipeD, Dv.keepD, Dv.tY, Dv.sAsg, Dv.sPar, Dv.sPar3, Dv.sAugI, Dv.sDrop, Dv.le_sLine, Dv.sh_non, Dv.sh_bl, Dv.sh_int, Dv.sh_tup, Dv.sh_lst, Dv.eqo_int, Dv.eqo_bl, Dv.eqo_tup, Dv.eqo_lst, Dv.eqos_nil, Dv.eqos_cons, List.all_cons, List.all_nil, Dv.beq_tt, Dv.beq_ff, Dv.beq_tf, Dv.beq_ft, List.getElem?_cons_zero, List.getElem?_cons_succ, List.getElem?_nil, List.set_cons_zero, List.set_cons_succ, List.set_nil, Option.bind_some, Option.bind_none, Option.map_some, Option.map_none, if_true, if_false, ↓reduceIte, decide_true, decide_false, Bool.false_eq_true, Bool.true_and, Bool.and_true, Bool.false_and, Bool.and_false, Bool.not_true, Bool.not_false, Bool.true_or, Bool.or_true, Bool.false_or, Bool.or_false, List.cons_append, List.nil_append, List.length_cons, List.length_nil, List.map_cons, List.map_nil, List.replicate_succ, List.replicate_zero, Nat.reduceAdd, Nat.reduceSub, Nat.reduceLT, Nat.reduceEqDiff, Nat.reduceLeDiff, Int.reduceAdd, Int.reduceSub, Int.reduceMul, Int.reduceNeg, Int.reduceLT, Int.reduceLE, Int.reduceEq, Int.reduceMod, Int.reduceDiv, Int.reduceToNat, Nat.add_zero, Nat.zero_add, List.contains_cons, List.contains_nil, Nat.reduceBEq, beq_self_eq_true, reduceCtorEq, and_true, true_and, and_false, false_and, not_true_eq_false, not_false_eq_true, c2__law_draws, frzs_ints, List.length_map, h2]
    | succ k ih =>
      intro L mix o4 o5 hk hmix hL
      by_cases h2 : (L.length : Int) < m
      · have hmul : mulOk mix 48271 = true := mul_ok (n := 2147483647) (m := 48271) (by unfold Bd; omega) (by decide)
        obtain ⟨p, hp, hp0, hp1⟩ := power_eq ((mix * 48271 + 11) % 2147483647)
        have hsz : L.length < sLine := by show L.length < 16777216; omega
        have hmx : 0 ≤ (mix * 48271 + 11) % 2147483647 ∧ (mix * 48271 + 11) % 2147483647 < 2147483647 := ⟨Int.emod_nonneg _ (by decide), Int.emod_lt_of_pos _ (by decide)⟩
        obtain ⟨L', mix', o4', o5', h3, h4⟩ := ih (L ++ [p]) ((mix * 48271 + 11) % 2147483647) o4 o5 (by rw [List.length_append]; show m.toNat - (L.length + 1) ≤ k; omega) hmx ⟨by rw [List.length_append]; show L.length + 1 ≤ _; omega, (hL.add hp0 hp1).2⟩
        refine ⟨L', mix', o4', o5', sWhl_turn ?_ ?_ h3, h4⟩
        · simp only [Dv.get, Dv.xV, Dv.xC, Dv.frz, Dv.frzs, Dv.flat, Dv.flats, Dv.clean, Dv.cleans, Dv.frzSlot, Dv.frz1, Dv.frzAt, Dv.put, Dv.addD, Dv.subD, Dv.mulD, Dv.fdivD, Dv.modD, Dv.negD, Dv.x2, Dv.x1, Dv.xsN, Dv.xsC, Dv.xTup, Dv.xLst, Dv.xCall, Dv.asB, Dv.tOf, Dv.tNot, Dv.tAnd, Dv.tOr, Dv.xB, Dv.xIf, Dv.cmpI, Dv.ltD, Dv.leD, Dv.gtD, Dv.geD, Dv.xAnd, Dv.xOr, Dv.xNot, Dv.sN, Dv.sSeq, Dv.sSet, Dv.sRet, Dv.sRetV, Dv.sIf, Dv.sBk, Dv.sCt, Dv.gN, Dv.gsN, Dv.gsC, Dv.gT, Dv.fnD, Dv.ixD, Dv.slD, Dv.pN, Dv.pI, Dv.xSl, Dv.lenD', Dv.intD, Dv.maxD, Dv.minD, Dv.allD, Dv.anyD, Dv.allB, Dv.listD, Dv.xF, Dv.isiD, Dv.eqD, Dv.neD, Dv.isND, Dv.notND, Dv.isN2, Dv.notN2, Dv.sApp, Dv.itL, Dv.itR1, Dv.itR2, Dv.rngL, Dv.zipL, Dv.zipO, Dv.itZ, Dv.enuL, Dv.enuO, Dv.itEn, Dv.wipeD, Dv.keepD, Dv.tY, Dv.sAsg, Dv.sPar, Dv.sPar3, Dv.sAugI, Dv.sDrop, Dv.le_sLine, Dv.sh_non, Dv.sh_bl, Dv.sh_int, Dv.sh_tup, Dv.sh_lst, Dv.eqo_int, Dv.eqo_bl, Dv.eqo_tup, Dv.eqo_lst, Dv.eqos_nil, Dv.eqos_cons, List.all_cons, List.all_nil, Dv.beq_tt, Dv.beq_ff, Dv.beq_tf, Dv.beq_ft, List.getElem?_cons_zero, List.getElem?_cons_succ, List.getElem?_nil, List.set_cons_zero, List.set_cons_succ, List.set_nil, Option.bind_some, Option.bind_none, Option.map_some, Option.map_none, if_true, if_false, ↓reduceIte, decide_true, decide_false, Bool.false_eq_true, Bool.true_and, Bool.and_true, Bool.false_and, Bool.and_false, Bool.not_true, Bool.not_false, Bool.true_or, Bool.or_true, Bool.false_or, Bool.or_false, List.cons_append, List.nil_append, List.length_cons, List.length_nil, List.map_cons, List.map_nil, List.replicate_succ, List.replicate_zero, Nat.reduceAdd, Nat.reduceSub, Nat.reduceLT, Nat.reduceEqDiff, Nat.reduceLeDiff, Int.reduceAdd, Int.reduceSub, Int.reduceMul, Int.reduceNeg, Int.reduceLT, Int.reduceLE, Int.reduceEq, Int.reduceMod, Int.reduceDiv, Int.reduceToNat, Nat.add_zero, Nat.zero_add, List.contains_cons, List.contains_nil, Nat.reduceBEq, beq_self_eq_true, reduceCtorEq, and_true, true_and, and_false, false_and, not_true_eq_false, not_false_eq_true, c2__law_draws, frzs_ints, List.length_map, h2]
        · simp only [Dv.get, Dv.xV, Dv.xC, Dv.frz, Dv.frzs, Dv.flat, Dv.flats, Dv.clean, Dv.cleans, Dv.frzSlot, Dv.frz1, Dv.frzAt, Dv.put, Dv.addD, Dv.subD, Dv.mulD, Dv.fdivD, Dv.modD, Dv.negD, Dv.x2, Dv.x1, Dv.xsN, Dv.xsC, Dv.xTup, Dv.xLst, Dv.xCall, Dv.asB, Dv.tOf, Dv.tNot, Dv.tAnd, Dv.tOr, Dv.xB, Dv.xIf, Dv.cmpI, Dv.ltD, Dv.leD, Dv.gtD, Dv.geD, Dv.xAnd, Dv.xOr, Dv.xNot, Dv.sN, Dv.sSeq, Dv.sSet, Dv.sRet, Dv.sRetV, Dv.sIf, Dv.sBk, Dv.sCt, Dv.gN, Dv.gsN, Dv.gsC, Dv.gT, Dv.fnD, Dv.ixD, Dv.slD, Dv.pN, Dv.pI, Dv.xSl, Dv.lenD', Dv.intD, Dv.maxD, Dv.minD, Dv.allD, Dv.anyD, Dv.allB, Dv.listD, Dv.xF, Dv.isiD, Dv.eqD, Dv.neD, Dv.isND, Dv.notND, Dv.isN2, Dv.notN2, Dv.sApp, Dv.itL, Dv.itR1, Dv.itR2, Dv.rngL, Dv.zipL, Dv.zipO, Dv.itZ, Dv.enuL, Dv.enuO, Dv.itEn, Dv.wipeD, Dv.keepD, Dv.tY, Dv.sAsg, Dv.sPar, Dv.sPar3, Dv.sAugI, Dv.sDrop, Dv.le_sLine, Dv.sh_non, Dv.sh_bl, Dv.sh_int, Dv.sh_tup, Dv.sh_lst, Dv.eqo_int, Dv.eqo_bl, Dv.eqo_tup, Dv.eqo_lst, Dv.eqos_nil, Dv.eqos_cons, List.all_cons, List.all_nil, Dv.beq_tt, Dv.beq_ff, Dv.beq_tf, Dv.beq_ft, List.getElem?_cons_zero, List.getElem?_cons_succ, List.getElem?_nil, List.set_cons_zero, List.set_cons_succ, List.set_nil, Option.bind_some, Option.bind_none, Option.map_some, Option.map_none, if_true, if_false, ↓reduceIte, decide_true, decide_false, Bool.false_eq_true, Bool.true_and, Bool.and_true, Bool.false_and, Bool.and_false, Bool.not_true, Bool.not_false, Bool.true_or, Bool.or_true, Bool.false_or, Bool.or_false, List.cons_append, List.nil_append, List.length_cons, List.length_nil, List.map_cons, List.map_nil, List.replicate_succ, List.replicate_zero, Nat.reduceAdd, Nat.reduceSub, Nat.reduceLT, Nat.reduceEqDiff, Nat.reduceLeDiff, Int.reduceAdd, Int.reduceSub, Int.reduceMul, Int.reduceNeg, Int.reduceLT, Int.reduceLE, Int.reduceEq, Int.reduceMod, Int.reduceDiv, Int.reduceToNat, Nat.add_zero, Nat.zero_add, List.contains_cons, List.contains_nil, Nat.reduceBEq, beq_self_eq_true, reduceCtorEq, and_true, true_and, and_false, false_and, not_true_eq_false, not_false_eq_true, b3__law_draws, frzs_ints, List.length_map, hmul, hp, hsz, map_app]
      · refine ⟨L, mix, o4, o5, sWhl_end ?_, by omega, hL⟩
        simp only [Dv.get, Dv.xV, Dv.xC, Dv.frz, Dv.frzs, Dv.flat, Dv.flats, Dv.clean, Dv.cleans, Dv.frzSlot, Dv.frz1, Dv.frzAt, Dv.put, Dv.addD, Dv.subD, Dv.mulD, Dv.fdivD, Dv.modD, Dv.negD, Dv.x2, Dv.x1, Dv.xsN, Dv.xsC, Dv.xTup, Dv.xLst, Dv.xCall, Dv.asB, Dv.tOf, Dv.tNot, Dv.tAnd, Dv.tOr, Dv.xB, Dv.xIf, Dv.cmpI, Dv.ltD, Dv.leD, Dv.gtD, Dv.geD, Dv.xAnd, Dv.xOr, Dv.xNot, Dv.sN, Dv.sSeq, Dv.sSet, Dv.sRet, Dv.sRetV, Dv.sIf, Dv.sBk, Dv.sCt, Dv.gN, Dv.gsN, Dv.gsC, Dv.gT, Dv.fnD, Dv.ixD, Dv.slD, Dv.pN, Dv.pI, Dv.xSl, Dv.lenD', Dv.intD, Dv.maxD, Dv.minD, Dv.allD, Dv.anyD, Dv.allB, Dv.listD, Dv.xF, Dv.isiD, Dv.eqD, Dv.neD, Dv.isND, Dv.notND, Dv.isN2, Dv.notN2, Dv.sApp, Dv.itL, Dv.itR1, Dv.itR2, Dv.rngL, Dv.zipL, Dv.zipO, Dv.itZ, Dv.enuL, Dv.enuO, Dv.itEn, Dv.wipeD, Dv.keepD, Dv.tY, Dv.sAsg, Dv.sPar, Dv.sPar3, Dv.sAugI, Dv.sDrop, Dv.le_sLine, Dv.sh_non, Dv.sh_bl, Dv.sh_int, Dv.sh_tup, Dv.sh_lst, Dv.eqo_int, Dv.eqo_bl, Dv.eqo_tup, Dv.eqo_lst, Dv.eqos_nil, Dv.eqos_cons, List.all_cons, List.all_nil, Dv.beq_tt, Dv.beq_ff, Dv.beq_tf, Dv.beq_ft, List.getElem?_cons_zero, List.getElem?_cons_succ, List.getElem?_nil, List.set_cons_zero, List.set_cons_succ, List.set_nil, Option.bind_some, Option.bind_none, Option.map_some, Option.map_none, if_true, if_false, ↓reduceIte, decide_true, decide_false, Bool.false_eq_true, Bool.true_and, Bool.and_true, Bool.false_and, Bool.and_false, Bool.not_true, Bool.not_false, Bool.true_or, Bool.or_true, Bool.false_or, Bool.or_false, List.cons_append, List.nil_append, List.length_cons, List.length_nil, List.map_cons, List.map_nil, List.replicate_succ, List.replicate_zero, Nat.reduceAdd, Nat.reduceSub, Nat.reduceLT, Nat.reduceEqDiff, Nat.reduceLeDiff, Int.reduceAdd, Int.reduceSub, Int.reduceMul, Int.reduceNeg, Int.reduceLT, Int.reduceLE, Int.reduceEq, Int.reduceMod, Int.reduceDiv, Int.reduceToNat, Nat.add_zero, Nat.zero_add, List.contains_cons, List.contains_nil, Nat.reduceBEq, beq_self_eq_true, reduceCtorEq, and_true, true_and, and_false, false_and, not_true_eq_false, not_false_eq_true, c2__law_draws, frzs_ints, List.length_map, h2]
  obtain ⟨L1, mix1, o4, o5, h1, hm1, hL1⟩ := l1 (cut ns none (some 63)) [] 7 none none 0 (by omega) ⟨by decide, by decide⟩ ⟨Nat.zero_le _, fun x h => nomatch h⟩
  obtain ⟨L2, mix2, o4', o5', h2, h3, h4⟩ := l2 _ L1 mix1 o4 o5 (Nat.le_refl _) hm1 hL1
  refine ⟨L2, ?_, h3, h4⟩
  unfold f__law_draws s__law_draws
  simp only [Dv.get, Dv.xV, Dv.xC, Dv.frz, Dv.frzs, Dv.flat, Dv.flats, Dv.clean, Dv.cleans, Dv.frzSlot, Dv.frz1, Dv.frzAt, Dv.put, Dv.addD, Dv.subD, Dv.mulD, Dv.fdivD, Dv.modD, Dv.negD, Dv.x2, Dv.x1, Dv.xsN, Dv.xsC, Dv.xTup, Dv.xLst, Dv.xCall, Dv.asB, Dv.tOf, Dv.tNot, Dv.tAnd, Dv.tOr, Dv.xB, Dv.xIf, Dv.cmpI, Dv.ltD, Dv.leD, Dv.gtD, Dv.geD, Dv.xAnd, Dv.xOr, Dv.xNot, Dv.sN, Dv.sSeq, Dv.sSet, Dv.sRet, Dv.sRetV, Dv.sIf, Dv.sBk, Dv.sCt, Dv.gN, Dv.gsN, Dv.gsC, Dv.gT, Dv.fnD, Dv.ixD, Dv.slD, Dv.pN, Dv.pI, Dv.xSl, Dv.lenD', Dv.intD, Dv.maxD, Dv.minD, Dv.allD, Dv.anyD, Dv.allB, Dv.listD, Dv.xF, Dv.isiD, Dv.eqD, Dv.neD, Dv.isND, Dv.notND, Dv.isN2, Dv.notN2, Dv.sApp, Dv.itL, Dv.itR1, Dv.itR2, Dv.rngL, Dv.zipL, Dv.zipO, Dv.itZ, Dv.enuL, Dv.enuO, Dv.itEn, Dv.wipeD, Dv.keepD, Dv.tY, Dv.sAsg, Dv.sPar, Dv.sPar3, Dv.sAugI, Dv.sDrop, Dv.le_sLine, Dv.sh_non, Dv.sh_bl, Dv.sh_int, Dv.sh_tup, Dv.sh_lst, Dv.eqo_int, Dv.eqo_bl, Dv.eqo_tup, Dv.eqo_lst, Dv.eqos_nil, Dv.eqos_cons, List.all_cons, List.all_nil, Dv.beq_tt, Dv.beq_ff, Dv.beq_tf, Dv.beq_ft, List.getElem?_cons_zero, List.getElem?_cons_succ, List.getElem?_nil, List.set_cons_zero, List.set_cons_succ, List.set_nil, Option.bind_some, Option.bind_none, Option.map_some, Option.map_none, if_true, if_false, ↓reduceIte, decide_true, decide_false, Bool.false_eq_true, Bool.true_and, Bool.and_true, Bool.false_and, Bool.and_false, Bool.not_true, Bool.not_false, Bool.true_or, Bool.or_true, Bool.false_or, Bool.or_false, List.cons_append, List.nil_append, List.length_cons, List.length_nil, List.map_cons, List.map_nil, List.replicate_succ, List.replicate_zero, Nat.reduceAdd, Nat.reduceSub, Nat.reduceLT, Nat.reduceEqDiff, Nat.reduceLeDiff, Int.reduceAdd, Int.reduceSub, Int.reduceMul, Int.reduceNeg, Int.reduceLT, Int.reduceLE, Int.reduceEq, Int.reduceMod, Int.reduceDiv, Int.reduceToNat, Nat.add_zero, Nat.zero_add, List.contains_cons, List.contains_nil, Nat.reduceBEq, beq_self_eq_true, reduceCtorEq, and_true, true_and, and_false, false_and, not_true_eq_false, not_false_eq_true, sFor, frzs_ints]
  rw [List.map_nil] at h1
  rw [h1]
  simp only [Dv.get, Dv.xV, Dv.xC, Dv.frz, Dv.frzs, Dv.flat, Dv.flats, Dv.clean, Dv.cleans, Dv.frzSlot, Dv.frz1, Dv.frzAt, Dv.put, Dv.addD, Dv.subD, Dv.mulD, Dv.fdivD, Dv.modD, Dv.negD, Dv.x2, Dv.x1, Dv.xsN, Dv.xsC, Dv.xTup, Dv.xLst, Dv.xCall, Dv.asB, Dv.tOf, Dv.tNot, Dv.tAnd, Dv.tOr, Dv.xB, Dv.xIf, Dv.cmpI, Dv.ltD, Dv.leD, Dv.gtD, Dv.geD, Dv.xAnd, Dv.xOr, Dv.xNot, Dv.sN, Dv.sSeq, Dv.sSet, Dv.sRet, Dv.sRetV, Dv.sIf, Dv.sBk, Dv.sCt, Dv.gN, Dv.gsN, Dv.gsC, Dv.gT, Dv.fnD, Dv.ixD, Dv.slD, Dv.pN, Dv.pI, Dv.xSl, Dv.lenD', Dv.intD, Dv.maxD, Dv.minD, Dv.allD, Dv.anyD, Dv.allB, Dv.listD, Dv.xF, Dv.isiD, Dv.eqD, Dv.neD, Dv.isND, Dv.notND, Dv.isN2, Dv.notN2, Dv.sApp, Dv.itL, Dv.itR1, Dv.itR2, Dv.rngL, Dv.zipL, Dv.zipO, Dv.itZ, Dv.enuL, Dv.enuO, Dv.itEn, Dv.wipeD, Dv.keepD, Dv.tY, Dv.sAsg, Dv.sPar, Dv.sPar3, Dv.sAugI, Dv.sDrop, Dv.le_sLine, Dv.sh_non, Dv.sh_bl, Dv.sh_int, Dv.sh_tup, Dv.sh_lst, Dv.eqo_int, Dv.eqo_bl, Dv.eqo_tup, Dv.eqo_lst, Dv.eqos_nil, Dv.eqos_cons, List.all_cons, List.all_nil, Dv.beq_tt, Dv.beq_ff, Dv.beq_tf, Dv.beq_ft, List.getElem?_cons_zero, List.getElem?_cons_succ, List.getElem?_nil, List.set_cons_zero, List.set_cons_succ, List.set_nil, Option.bind_some, Option.bind_none, Option.map_some, Option.map_none, if_true, if_false, ↓reduceIte, decide_true, decide_false, Bool.false_eq_true, Bool.true_and, Bool.and_true, Bool.false_and, Bool.and_false, Bool.not_true, Bool.not_false, Bool.true_or, Bool.or_true, Bool.false_or, Bool.or_false, List.cons_append, List.nil_append, List.length_cons, List.length_nil, List.map_cons, List.map_nil, List.replicate_succ, List.replicate_zero, Nat.reduceAdd, Nat.reduceSub, Nat.reduceLT, Nat.reduceEqDiff, Nat.reduceLeDiff, Int.reduceAdd, Int.reduceSub, Int.reduceMul, Int.reduceNeg, Int.reduceLT, Int.reduceLE, Int.reduceEq, Int.reduceMod, Int.reduceDiv, Int.reduceToNat, Nat.add_zero, Nat.zero_add, List.contains_cons, List.contains_nil, Nat.reduceBEq, beq_self_eq_true, reduceCtorEq, and_true, true_and, and_false, false_and, not_true_eq_false, not_false_eq_true]
  rw [h2]
  rfl
end Sm

end
section
set_option Elab.async false
set_option linter.all false
set_option maxRecDepth 100000
namespace Sm
open Dv
theorem x2_of {f : O → O → Option O} {a b : SE} {τ : Sl} {x y o : O} (ha : a τ = some x) (hb : b τ = some y) (h : f x y = some o) : x2 f a b τ = some o := by
  unfold x2
  rw [ha, hb]
  exact h
theorem put_cl {ns : List Nat} {i : Nat} {o : O} {τ : Sl} (h : clean o = true) : Dv.put ns i o τ = τ.set i (some o) := by
  unfold Dv.put
  rw [if_pos h]
theorem ret_of {a : SE} {τ : Sl} {o : O} (h : a τ = some o) : sRet a τ = some (.rt o) := by
  unfold sRet
  rw [h]; rfl
theorem addL {o p : Bool} {A B : List S2} (h : A.length + B.length ≤ 10000) : addD (.lst o (A.map pO)) (.lst p (B.map pO)) = some (.lst true ((A ++ B).map pO)) := by
  show (if (A.map pO).length + (B.map pO).length ≤ sLine then some (O.lst true (frzs (A.map pO) ++ frzs (B.map pO))) else none) = _
  rw [if_pos (by rw [List.length_map, List.length_map]; exact Nat.le_trans h (by decide)), frzs_pO, frzs_pO, List.map_append]
theorem slL {o : Bool} {A : List S2} {lo hi : Option Int} : slD (.lst o (A.map pO)) lo hi = some (.lst true ((cut A lo hi).map pO)) := by
  show some (O.lst true (cut (A.map pO) lo hi)) = _
  rw [cut_map]
theorem xSl_of {a : SE} {lo hi : SP} {τ : Sl} {x o : O} {l h : Option Int} (ha : a τ = some x) (hl : lo τ = some l) (hh : hi τ = some h) (e : slD x l h = some o) : xSl a lo hi τ = some o := by
  unfold xSl
  rw [ha, Option.bind_some, hl, Option.bind_some, hh]
  exact e
def Bdd (b : Int) (P : List S2) : Prop := ∀ c ∈ P, (-b ≤ c.1 ∧ c.1 ≤ b) ∧ (-b ≤ c.2 ∧ c.2 ≤ b)
theorem Bdd.sub {b b' : Int} {P Q : List S2} (h : Bdd b P) (i : b ≤ b') (s : ∀ c ∈ Q, c ∈ P) : Bdd b' Q := fun c hc => by
  have := h c (s c hc)
  omega
theorem Bdd.app {b : Int} {P Q : List S2} (h : Bdd b P) (i : Bdd b Q) : Bdd b (P ++ Q) := fun c hc => by
  rcases List.mem_append.mp hc with z | z
  · exact h c z
  · exact i c z
theorem cut_mem {α : Type} {L : List α} {lo hi : Option Int} {x : α} (h : x ∈ cut L lo hi) : x ∈ L := by
  unfold cut at h
  exact List.mem_of_mem_drop (List.mem_of_mem_take h)
theorem cut_le {α : Type} {L : List α} {lo hi : Option Int} : (cut L lo hi).length ≤ L.length := by
  unfold cut
  rw [List.length_take, List.length_drop]; omega
theorem eqII (a b : Int) : eqD (.int a) (.int b) = some (.bl (decide (a = b))) := by
  by_cases h : a = b
  · have := eq_true h; simp (config := {decide := true}) only [Dv.get, Dv.xV, Dv.xC, Dv.frz, Dv.frzs, Dv.flat, Dv.flats, Dv.clean, Dv.cleans, Dv.frzSlot, Dv.frz1, Dv.frzAt, Dv.put, Dv.addD, Dv.subD, Dv.mulD, Dv.fdivD, Dv.modD, Dv.negD, Dv.x2, Dv.x1, Dv.xsN, Dv.xsC, Dv.xTup, Dv.xLst, Dv.xCall, Dv.asB, Dv.tOf, Dv.tNot, Dv.tAnd, Dv.tOr, Dv.xB, Dv.xIf, Dv.cmpI, Dv.ltD, Dv.leD, Dv.gtD, Dv.geD, Dv.xAnd, Dv.xOr, Dv.xNot, Dv.sN, Dv.sSeq, Dv.sSet, Dv.sRet, Dv.sRetV, Dv.sIf, Dv.sBk, Dv.sCt, Dv.gN, Dv.gsN, Dv.gsC, Dv.gT, Dv.fnD, Dv.ixD, Dv.slD, Dv.pN, Dv.pI, Dv.xSl, Dv.lenD', Dv.intD, Dv.maxD, Dv.minD, Dv.allD, Dv.anyD, Dv.allB, Dv.listD, Dv.xF, Dv.isiD, Dv.eqD, Dv.neD, Dv.isND, Dv.notND, Dv.isN2, Dv.notN2, Dv.sApp, Dv.itL, Dv.itR1, Dv.itR2, Dv.rngL, Dv.zipL, Dv.zipO, Dv.itZ, Dv.enuL, Dv.enuO, Dv.itEn, Dv.wipeD, Dv.keepD, Dv.tY, Dv.sAsg, Dv.sPar, Dv.sPar3, Dv.sAugI, Dv.sDrop, Dv.at_20, Dv.at_21, Dv.at_30, Dv.at_31, Dv.at_32, Dv.at_40, Dv.at_41, Dv.at_42, Dv.at_43, Dv.at_10, Dv.frzs_ints, Dv.cleans_ints, Dv.le_sLine, Dv.sh_non, Dv.sh_bl, Dv.sh_int, Dv.sh_tup, Dv.sh_lst, Dv.eqo_int, Dv.eqo_bl, Dv.eqo_tup, Dv.eqo_lst, Dv.eqos_nil, Dv.eqos_cons, List.all_cons, List.all_nil, Dv.beq_tt, Dv.beq_ff, Dv.beq_tf, Dv.beq_ft, List.getElem?_cons_zero, List.getElem?_cons_succ, List.getElem?_nil, List.set_cons_zero, List.set_cons_succ, List.set_nil, Option.bind_some, Option.bind_none, Option.map_some, Option.map_none, if_true, if_false, ↓reduceIte, decide_true, decide_false, Bool.false_eq_true, Bool.true_and, Bool.and_true, Bool.false_and, Bool.and_false, Bool.not_true, Bool.not_false, Bool.true_or, Bool.or_true, Bool.false_or, Bool.or_false, List.cons_append, List.nil_append, List.length_cons, List.length_nil, List.map_cons, List.map_nil, List.replicate_succ, List.replicate_zero, Nat.reduceAdd, Nat.reduceSub, Nat.reduceLT, Nat.reduceEqDiff, Nat.reduceLeDiff, Int.reduceAdd, Int.reduceSub, Int.reduceMul, Int.reduceNeg, Int.reduceLT, Int.reduceLE, Int.reduceEq, Int.reduceMod, Int.reduceDiv, Int.reduceToNat, Nat.add_zero, Nat.zero_add, List.contains_cons, List.contains_nil, Nat.reduceBEq, beq_self_eq_true, reduceCtorEq, and_true, true_and, and_false, false_and, not_true_eq_false, not_false_eq_true, Dv.mulOk_sz, this]
  · have := eq_false h; simp (config := {decide := true}) only [Dv.get, Dv.xV, Dv.xC, Dv.frz, Dv.frzs, Dv.flat, Dv.flats, Dv.clean, Dv.cleans, Dv.frzSlot, Dv.frz1, Dv.frzAt, Dv.put, Dv.addD, Dv.subD, Dv.mulD, Dv.fdivD, Dv.modD, Dv.negD, Dv.x2, Dv.x1, Dv.xsN, Dv.xsC, Dv.xTup, Dv.xLst, Dv.xCall, Dv.asB, Dv.tOf, Dv.tNot, Dv.tAnd, Dv.tOr, Dv.xB, Dv.xIf, Dv.cmpI, Dv.ltD, Dv.leD, Dv.gtD, Dv.geD, Dv.xAnd, Dv.xOr, Dv.xNot, Dv.sN, Dv.sSeq, Dv.sSet, Dv.sRet, Dv.sRetV, Dv.sIf, Dv.sBk, Dv.sCt, Dv.gN, Dv.gsN, Dv.gsC, Dv.gT, Dv.fnD, Dv.ixD, Dv.slD, Dv.pN, Dv.pI, Dv.xSl, Dv.lenD', Dv.intD, Dv.maxD, Dv.minD, Dv.allD, Dv.anyD, Dv.allB, Dv.listD, Dv.xF, Dv.isiD, Dv.eqD, Dv.neD, Dv.isND, Dv.notND, Dv.isN2, Dv.notN2, Dv.sApp, Dv.itL, Dv.itR1, Dv.itR2, Dv.rngL, Dv.zipL, Dv.zipO, Dv.itZ, Dv.enuL, Dv.enuO, Dv.itEn, Dv.wipeD, Dv.keepD, Dv.tY, Dv.sAsg, Dv.sPar, Dv.sPar3, Dv.sAugI, Dv.sDrop, Dv.at_20, Dv.at_21, Dv.at_30, Dv.at_31, Dv.at_32, Dv.at_40, Dv.at_41, Dv.at_42, Dv.at_43, Dv.at_10, Dv.frzs_ints, Dv.cleans_ints, Dv.le_sLine, Dv.sh_non, Dv.sh_bl, Dv.sh_int, Dv.sh_tup, Dv.sh_lst, Dv.eqo_int, Dv.eqo_bl, Dv.eqo_tup, Dv.eqo_lst, Dv.eqos_nil, Dv.eqos_cons, List.all_cons, List.all_nil, Dv.beq_tt, Dv.beq_ff, Dv.beq_tf, Dv.beq_ft, List.getElem?_cons_zero, List.getElem?_cons_succ, List.getElem?_nil, List.set_cons_zero, List.set_cons_succ, List.set_nil, Option.bind_some, Option.bind_none, Option.map_some, Option.map_none, if_true, if_false, ↓reduceIte, decide_true, decide_false, Bool.false_eq_true, Bool.true_and, Bool.and_true, Bool.false_and, Bool.and_false, Bool.not_true, Bool.not_false, Bool.true_or, Bool.or_true, Bool.false_or, Bool.or_false, List.cons_append, List.nil_append, List.length_cons, List.length_nil, List.map_cons, List.map_nil, List.replicate_succ, List.replicate_zero, Nat.reduceAdd, Nat.reduceSub, Nat.reduceLT, Nat.reduceEqDiff, Nat.reduceLeDiff, Int.reduceAdd, Int.reduceSub, Int.reduceMul, Int.reduceNeg, Int.reduceLT, Int.reduceLE, Int.reduceEq, Int.reduceMod, Int.reduceDiv, Int.reduceToNat, Nat.add_zero, Nat.zero_add, List.contains_cons, List.contains_nil, Nat.reduceBEq, beq_self_eq_true, reduceCtorEq, and_true, true_and, and_false, false_and, not_true_eq_false, not_false_eq_true, Dv.mulOk_sz, this]
theorem neII (a b : Int) : neD (.int a) (.int b) = some (.bl (!decide (a = b))) := by
  by_cases h : a = b
  · have := eq_true h; simp (config := {decide := true}) only [Dv.get, Dv.xV, Dv.xC, Dv.frz, Dv.frzs, Dv.flat, Dv.flats, Dv.clean, Dv.cleans, Dv.frzSlot, Dv.frz1, Dv.frzAt, Dv.put, Dv.addD, Dv.subD, Dv.mulD, Dv.fdivD, Dv.modD, Dv.negD, Dv.x2, Dv.x1, Dv.xsN, Dv.xsC, Dv.xTup, Dv.xLst, Dv.xCall, Dv.asB, Dv.tOf, Dv.tNot, Dv.tAnd, Dv.tOr, Dv.xB, Dv.xIf, Dv.cmpI, Dv.ltD, Dv.leD, Dv.gtD, Dv.geD, Dv.xAnd, Dv.xOr, Dv.xNot, Dv.sN, Dv.sSeq, Dv.sSet, Dv.sRet, Dv.sRetV, Dv.sIf, Dv.sBk, Dv.sCt, Dv.gN, Dv.gsN, Dv.gsC, Dv.gT, Dv.fnD, Dv.ixD, Dv.slD, Dv.pN, Dv.pI, Dv.xSl, Dv.lenD', Dv.intD, Dv.maxD, Dv.minD, Dv.allD, Dv.anyD, Dv.allB, Dv.listD, Dv.xF, Dv.isiD, Dv.eqD, Dv.neD, Dv.isND, Dv.notND, Dv.isN2, Dv.notN2, Dv.sApp, Dv.itL, Dv.itR1, Dv.itR2, Dv.rngL, Dv.zipL, Dv.zipO, Dv.itZ, Dv.enuL, Dv.enuO, Dv.itEn, Dv.wipeD, Dv.keepD, Dv.tY, Dv.sAsg, Dv.sPar, Dv.sPar3, Dv.sAugI, Dv.sDrop, Dv.at_20, Dv.at_21, Dv.at_30, Dv.at_31, Dv.at_32, Dv.at_40, Dv.at_41, Dv.at_42, Dv.at_43, Dv.at_10, Dv.frzs_ints, Dv.cleans_ints, Dv.le_sLine, Dv.sh_non, Dv.sh_bl, Dv.sh_int, Dv.sh_tup, Dv.sh_lst, Dv.eqo_int, Dv.eqo_bl, Dv.eqo_tup, Dv.eqo_lst, Dv.eqos_nil, Dv.eqos_cons, List.all_cons, List.all_nil, Dv.beq_tt, Dv.beq_ff, Dv.beq_tf, Dv.beq_ft, List.getElem?_cons_zero, List.getElem?_cons_succ, List.getElem?_nil, List.set_cons_zero, List.set_cons_succ, List.set_nil, Option.bind_some, Option.bind_none, Option.map_some, Option.map_none, if_true, if_false, ↓reduceIte, decide_true, decide_false, Bool.false_eq_true, Bool.true_and, Bool.and_true, Bool.false_and, Bool.and_false, Bool.not_true, Bool.not_false, Bool.true_or, Bool.or_true, Bool.false_or, Bool.or_false, List.cons_append, List.nil_append, List.length_cons, List.length_nil, List.map_cons, List.map_nil, List.replicate_succ, List.replicate_zero, Nat.reduceAdd, Nat.reduceSub, Nat.reduceLT, Nat.reduceEqDiff, Nat.reduceLeDiff, Int.reduceAdd, Int.reduceSub, Int.reduceMul, Int.reduceNeg, Int.reduceLT, Int.reduceLE, Int.reduceEq, Int.reduceMod, Int.reduceDiv, Int.reduceToNat, Nat.add_zero, Nat.zero_add, List.contains_cons, List.contains_nil, Nat.reduceBEq, beq_self_eq_true, reduceCtorEq, and_true, true_and, and_false, false_and, not_true_eq_false, not_false_eq_true, Dv.mulOk_sz, this]
  · have := eq_false h; simp (config := {decide := true}) only [Dv.get, Dv.xV, Dv.xC, Dv.frz, Dv.frzs, Dv.flat, Dv.flats, Dv.clean, Dv.cleans, Dv.frzSlot, Dv.frz1, Dv.frzAt, Dv.put, Dv.addD, Dv.subD, Dv.mulD, Dv.fdivD, Dv.modD, Dv.negD, Dv.x2, Dv.x1, Dv.xsN, Dv.xsC, Dv.xTup, Dv.xLst, Dv.xCall, Dv.asB, Dv.tOf, Dv.tNot, Dv.tAnd, Dv.tOr, Dv.xB, Dv.xIf, Dv.cmpI, Dv.ltD, Dv.leD, Dv.gtD, Dv.geD, Dv.xAnd, Dv.xOr, Dv.xNot, Dv.sN, Dv.sSeq, Dv.sSet, Dv.sRet, Dv.sRetV, Dv.sIf, Dv.sBk, Dv.sCt, Dv.gN, Dv.gsN, Dv.gsC, Dv.gT, Dv.fnD, Dv.ixD, Dv.slD, Dv.pN, Dv.pI, Dv.xSl, Dv.lenD', Dv.intD, Dv.maxD, Dv.minD, Dv.allD, Dv.anyD, Dv.allB, Dv.listD, Dv.xF, Dv.isiD, Dv.eqD, Dv.neD, Dv.isND, Dv.notND, Dv.isN2, Dv.notN2, Dv.sApp, Dv.itL, Dv.itR1, Dv.itR2, Dv.rngL, Dv.zipL, Dv.zipO, Dv.itZ, Dv.enuL, Dv.enuO, Dv.itEn, Dv.wipeD, Dv.keepD, Dv.tY, Dv.sAsg, Dv.sPar, Dv.sPar3, Dv.sAugI, Dv.sDrop, Dv.at_20, Dv.at_21, Dv.at_30, Dv.at_31, Dv.at_32, Dv.at_40, Dv.at_41, Dv.at_42, Dv.at_43, Dv.at_10, Dv.frzs_ints, Dv.cleans_ints, Dv.le_sLine, Dv.sh_non, Dv.sh_bl, Dv.sh_int, Dv.sh_tup, Dv.sh_lst, Dv.eqo_int, Dv.eqo_bl, Dv.eqo_tup, Dv.eqo_lst, Dv.eqos_nil, Dv.eqos_cons, List.all_cons, List.all_nil, Dv.beq_tt, Dv.beq_ff, Dv.beq_tf, Dv.beq_ft, List.getElem?_cons_zero, List.getElem?_cons_succ, List.getElem?_nil, List.set_cons_zero, List.set_cons_succ, List.set_nil, Option.bind_some, Option.bind_none, Option.map_some, Option.map_none, if_true, if_false, ↓reduceIte, decide_true, decide_false, Bool.false_eq_true, Bool.true_and, Bool.and_true, Bool.false_and, Bool.and_false, Bool.not_true, Bool.not_false, Bool.true_or, Bool.or_true, Bool.false_or, Bool.or_false, List.cons_append, List.nil_append, List.length_cons, List.length_nil, List.map_cons, List.map_nil, List.replicate_succ, List.replicate_zero, Nat.reduceAdd, Nat.reduceSub, Nat.reduceLT, Nat.reduceEqDiff, Nat.reduceLeDiff, Int.reduceAdd, Int.reduceSub, Int.reduceMul, Int.reduceNeg, Int.reduceLT, Int.reduceLE, Int.reduceEq, Int.reduceMod, Int.reduceDiv, Int.reduceToNat, Nat.add_zero, Nat.zero_add, List.contains_cons, List.contains_nil, Nat.reduceBEq, beq_self_eq_true, reduceCtorEq, and_true, true_and, and_false, false_and, not_true_eq_false, not_false_eq_true, Dv.mulOk_sz, this]
theorem pO_frz {P : List S2} : frz (.lst true (P.map pO)) = .lst false (P.map pO) := by
  show O.lst false (frzs (P.map pO)) = _
  rw [frzs_pO]
/-- the bent corners: some list, not much farther -/
theorem bent_eq (o : Bool) (D : List Int) (hD : Cells 4 D) (P : List S2) (n0 : 0 < P.length) (n1 : P.length ≤ 12) {b : Int} (hb : Bdd b P) (b0 : 0 ≤ b) (b1 : b ≤ 30000) : ∃ (w : Bool) (Q : List S2), f__law_bent [.lst o (D.map O.int), .lst false (P.map pO)] = some (.lst w (Q.map pO)) ∧ Bdd (3 * b + 400) Q := by
  obtain ⟨a0, i0, _, l0, u0⟩ := hD.at 0 (by decide) (by omega)
  obtain ⟨a1, i1, _, l1, u1⟩ := hD.at 1 (by decide) (by omega)
  obtain ⟨a2, i2, _, l2, u2⟩ := hD.at 2 (by decide) (by omega)
  obtain ⟨a3, i3, _, l3, u3⟩ := hD.at 3 (by decide) (by omega)
  obtain ⟨n, hn⟩ : ∃ n : Nat, a1 % (P.length : Int) = n := ⟨(a1 % (P.length : Int)).toNat, by have := Int.emod_nonneg a1 (show (P.length : Int) ≠ 0 by omega); omega⟩
  obtain ⟨m, hm⟩ : ∃ n : Nat, a2 % (P.length : Int) = n := ⟨(a2 % (P.length : Int)).toNat, by have := Int.emod_nonneg a2 (show (P.length : Int) ≠ 0 by omega); omega⟩
  have nr : n < P.length := by have := Int.emod_lt_of_pos a1 (show 0 < (P.length : Int) by omega); omega
  have mr : m < P.length := by have := Int.emod_lt_of_pos a2 (show 0 < (P.length : Int) by omega); omega
  obtain ⟨W, hW⟩ : ∃ W, a0 % 10 = W := ⟨_, rfl⟩
  obtain ⟨c, hc⟩ : ∃ c, P[n]? = some c := ⟨_, List.getElem?_eq_getElem nr⟩
  obtain ⟨e, he⟩ : ∃ c, P[m]? = some c := ⟨_, List.getElem?_eq_getElem mr⟩
  have kp : ∀ q, q < P.length → ∃ d, at? (P.map pO) ((q : Int) - 1) = some (pO d) ∧ d ∈ P := fun q hq => by
    by_cases z : q = 0
    · subst z
      obtain ⟨d, hd⟩ : ∃ c, P[P.length - 1]? = some c := ⟨_, List.getElem?_eq_getElem (by omega)⟩
      refine ⟨d, ?_, List.mem_of_getElem? hd⟩
      have hm : (P.map pO)[P.length - 1]? = some (pO d) := by rw [List.getElem?_map, hd]; rfl
      unfold at?
      rw [if_neg (by omega), if_pos (by rw [List.length_map]; omega), List.length_map]
      have e : ((0 : Nat) - 1 + (P.length : Int) : Int).toNat = P.length - 1 := by omega
      rw [e]
      exact hm
    · obtain ⟨d, hd⟩ : ∃ c, P[q - 1]? = some c := ⟨_, List.getElem?_eq_getElem (by omega)⟩
      refine ⟨d, ?_, List.mem_of_getElem? hd⟩
      have := pO_at hd
      rwa [show ((q - 1 : Nat) : Int) = (q : Int) - 1 by omega] at this
  obtain ⟨d, hd, dm⟩ := kp n nr
  have cm := List.mem_of_getElem? hc
  have em := List.mem_of_getElem? he
  have bc := hb c cm
  have be := hb e em
  have bd := hb d dm
  obtain ⟨x, y⟩ := c
  obtain ⟨p, q⟩ := d
  simp only at bc bd
  haveI : Sz 1 x := sz1 (by omega) (by omega)
  haveI : Sz 1 y := sz1 (by omega) (by omega)
  haveI : Sz 1 p := sz1 (by omega) (by omega)
  haveI : Sz 1 q := sz1 (by omega) (by omega)
  have jc := pO_at hc
  have je := pO_at he
  obtain ⟨J, hJ⟩ : ∃ J, P.map pO = J := ⟨_, rfl⟩
  have fJ : frzs J = J := by rw [← hJ]; exact frzs_pO P
  have lJ : (J.length : Int) = (P.length : Int) := by rw [← hJ, List.length_map]
  obtain ⟨Ds, hDs⟩ : ∃ Ls, D.map O.int = Ls := ⟨_, rfl⟩
  have fD : frzs Ds = Ds := by rw [← hDs]; exact frzs_ints D
  rw [hDs] at i0 i1 i2 i3 ⊢
  have lp : (0 < (P.length : Int)) = True := eq_true (by omega)
  have d10 : divOk 10 = true := by decide
  have d3 : divOk 3 = true := by decide
  have d400 : divOk 400 = true := by decide
  obtain ⟨τ0, hτ0⟩ : ∃ τ0 : Sl, [some (.lst false Ds), some (.lst false J), some (.int n), some (.int m), some (.int W), some (.int x), some (.int y)] = τ0 := ⟨_, rfl⟩
  have cd : ∀ k : Int, tOf (x2 eqD (xV 4) (xC (.int k))) τ0 = some (decide (W = k)) := fun k => by
    rw [← hτ0]
    unfold tOf
    rw [x2_of (x := .int W) (y := .int k) rfl rfl (eqII W k)]
    rfl
  have v1 : xV 1 τ0 = some (.lst false (P.map pO)) := by rw [← hτ0, hJ]; simp (config := {decide := true}) only [Dv.get, Dv.xV, Dv.xC, Dv.frz, Dv.frzs, Dv.flat, Dv.flats, Dv.clean, Dv.cleans, Dv.frzSlot, Dv.frz1, Dv.frzAt, Dv.put, Dv.addD, Dv.subD, Dv.mulD, Dv.fdivD, Dv.modD, Dv.negD, Dv.x2, Dv.x1, Dv.xsN, Dv.xsC, Dv.xTup, Dv.xLst, Dv.xCall, Dv.asB, Dv.tOf, Dv.tNot, Dv.tAnd, Dv.tOr, Dv.xB, Dv.xIf, Dv.cmpI, Dv.ltD, Dv.leD, Dv.gtD, Dv.geD, Dv.xAnd, Dv.xOr, Dv.xNot, Dv.sN, Dv.sSeq, Dv.sSet, Dv.sRet, Dv.sRetV, Dv.sIf, Dv.sBk, Dv.sCt, Dv.gN, Dv.gsN, Dv.gsC, Dv.gT, Dv.fnD, Dv.ixD, Dv.slD, Dv.pN, Dv.pI, Dv.xSl, Dv.lenD', Dv.intD, Dv.maxD, Dv.minD, Dv.allD, Dv.anyD, Dv.allB, Dv.listD, Dv.xF, Dv.isiD, Dv.eqD, Dv.neD, Dv.isND, Dv.notND, Dv.isN2, Dv.notN2, Dv.sApp, Dv.itL, Dv.itR1, Dv.itR2, Dv.rngL, Dv.zipL, Dv.zipO, Dv.itZ, Dv.enuL, Dv.enuO, Dv.itEn, Dv.wipeD, Dv.keepD, Dv.tY, Dv.sAsg, Dv.sPar, Dv.sPar3, Dv.sAugI, Dv.sDrop, Dv.at_20, Dv.at_21, Dv.at_30, Dv.at_31, Dv.at_32, Dv.at_40, Dv.at_41, Dv.at_42, Dv.at_43, Dv.at_10, Dv.frzs_ints, Dv.cleans_ints, Dv.le_sLine, Dv.sh_non, Dv.sh_bl, Dv.sh_int, Dv.sh_tup, Dv.sh_lst, Dv.eqo_int, Dv.eqo_bl, Dv.eqo_tup, Dv.eqo_lst, Dv.eqos_nil, Dv.eqos_cons, List.all_cons, List.all_nil, Dv.beq_tt, Dv.beq_ff, Dv.beq_tf, Dv.beq_ft, List.getElem?_cons_zero, List.getElem?_cons_succ, List.getElem?_nil, List.set_cons_zero, List.set_cons_succ, List.set_nil, Option.bind_some, Option.bind_none, Option.map_some, Option.map_none, if_true, if_false, ↓reduceIte, decide_true, decide_false, Bool.false_eq_true, Bool.true_and, Bool.and_true, Bool.false_and, Bool.and_false, Bool.not_true, Bool.not_false, Bool.true_or, Bool.or_true, Bool.false_or, Bool.or_false, List.cons_append, List.nil_append, List.length_cons, List.length_nil, List.map_cons, List.map_nil, List.replicate_succ, List.replicate_zero, Nat.reduceAdd, Nat.reduceSub, Nat.reduceLT, Nat.reduceEqDiff, Nat.reduceLeDiff, Int.reduceAdd, Int.reduceSub, Int.reduceMul, Int.reduceNeg, Int.reduceLT, Int.reduceLE, Int.reduceEq, Int.reduceMod, Int.reduceDiv, Int.reduceToNat, Nat.add_zero, Nat.zero_add, List.contains_cons, List.contains_nil, Nat.reduceBEq, beq_self_eq_true, reduceCtorEq, and_true, true_and, and_false, false_and, not_true_eq_false, not_false_eq_true, Dv.mulOk_sz, fJ]
  have v2 : pI (xV 2) τ0 = some (some (n : Int)) := by rw [← hτ0]; rfl
  have v2' : pI (x2 addD (xV 2) (xC (.int 1))) τ0 = some (some ((n + 1 : Nat) : Int)) := by rw [← hτ0]; rfl
  have s1 : xSl (xV 1) pN (pI (xV 2)) τ0 = some (.lst true ((P.take n).map pO)) := xSl_of v1 rfl v2 (by rw [slL, cut_to])
  have s2 : xSl (xV 1) (pI (x2 addD (xV 2) (xC (.int 1)))) pN τ0 = some (.lst true ((P.drop (n + 1)).map pO)) := xSl_of v1 v2' rfl (by rw [slL, cut_from])
  have s3 : xSl (xV 1) (pI (xV 2)) pN τ0 = some (.lst true ((P.drop n).map pO)) := xSl_of v1 v2 rfl (by rw [slL, cut_from])
  have lt := List.length_take (i := n) (l := P)
  have ld := List.length_drop (i := n) (l := P)
  have ld1 := List.length_drop (i := n + 1) (l := P)
  have sub3 : ∀ {Q : List S2}, (∀ c ∈ Q, c ∈ P) → Bdd (3 * b + 400) Q := fun h => hb.sub (by omega) h
  have tk : Bdd (3 * b + 400) (P.take n) := sub3 fun _ => List.mem_of_mem_take
  have dr : Bdd (3 * b + 400) (P.drop n) := sub3 fun _ => List.mem_of_mem_drop
  have dr1 : Bdd (3 * b + 400) (P.drop (n + 1)) := sub3 fun _ => List.mem_of_mem_drop
  have one : ∀ z : S2, ((-(3 * b + 400) ≤ z.1 ∧ z.1 ≤ 3 * b + 400) ∧ (-(3 * b + 400) ≤ z.2 ∧ z.2 ≤ 3 * b + 400)) → Bdd (3 * b + 400) [z] := fun z hz c hc => by
    rw [List.mem_singleton.mp hc]; exact hz
  -- a place put in: between two parts
  have put : ∀ {e1 e3 : SE} {z : S2} {A B : List S2}, e1 τ0 = some (.lst true (A.map pO)) → e3 τ0 = some (.lst true (B.map pO)) → A.length ≤ 100 → B.length ≤ 100 → ∀ {r : SE}, r τ0 = some (pO z) → x2 addD (x2 addD e1 (xLst (xsC r (xsN)))) e3 τ0 = some (.lst true ((A ++ [z] ++ B).map pO)) := fun {e1 e3 z A B} h1 h3 la lb {r} hr => by
    have h2 : xLst (xsC r (xsN)) τ0 = some (.lst true ([z].map pO)) := by
      unfold xLst xsC xsN
      rw [hr]; rfl
    exact x2_of (x2_of h1 h2 (addL (by show A.length + 1 ≤ _; omega))) h3 (addL (by rw [List.length_append]; show A.length + 1 + B.length ≤ _; omega))
  unfold f__law_bent s__law_bent
  have fin : ∀ {r : Option Fl} {w : Bool} {Q : List S2}, r = some (.rt (.lst w (Q.map pO))) → Bdd (3 * b + 400) Q → ∃ (w : Bool) (Q : List S2), r = some (.rt (.lst w (Q.map pO))) ∧ Bdd (3 * b + 400) Q := fun h k => ⟨_, _, h, k⟩
  suffices H : ∃ (w : Bool) (Q : List S2), (sSeq (sIf (tOf (x2 eqD (xV 4) (xC (.int 1)))) (sRet (x2 addD (xSl (xV 1) pN (pI (xV 2))) (xSl (xV 1) (pI (x2 addD (xV 2) (xC (.int 1)))) pN))) (sN))
  (sSeq (sIf (tOf (x2 eqD (xV 4) (xC (.int 2)))) (sRet (x2 addD (x2 addD (xSl (xV 1) pN (pI (xV 2))) (xLst (xsC (x2 ixD (xV 1) (xV 3)) (xsN)))) (xSl (xV 1) (pI (xV 2)) pN))) (sN))
  (sSeq (sIf (tOf (x2 eqD (xV 4) (xC (.int 3)))) (sRet (xRev (xV 1))) (sN))
  (sSeq (sIf (tOf (x2 eqD (xV 4) (xC (.int 4)))) (sRet (x2 addD (x2 addD (xSl (xV 1) pN (pI (xV 2))) (xLst (xsC (xTup (xsC (x2 subD (x2 addD (xV 5) (x2 modD (x2 ixD (xV 0) (xC (.int 2))) (xC (.int 3)))) (xC (.int 1))) (xsC (x2 subD (x2 addD (xV 6) (x2 modD (x2 ixD (xV 0) (xC (.int 3))) (xC (.int 3)))) (xC (.int 1))) (xsN)))) (xsN)))) (xSl (xV 1) (pI (x2 addD (xV 2) (xC (.int 1)))) pN))) (sN))
  (sSeq (sIf (tOf (x2 eqD (xV 4) (xC (.int 5)))) (sRet (x2 addD (x2 addD (xSl (xV 1) pN (pI (xV 2))) (xLst (xsC (xTup (xsC (x2 addD (xV 5) (x2 modD (x2 ixD (xV 0) (xC (.int 2))) (xC (.int 400)))) (xsC (x2 subD (xV 6) (x2 modD (x2 ixD (xV 0) (xC (.int 3))) (xC (.int 400)))) (xsN)))) (xsN)))) (xSl (xV 1) (pI (x2 addD (xV 2) (xC (.int 1)))) pN))) (sN))
  (sSeq (sIf (tOf (x2 eqD (xV 4) (xC (.int 6)))) (sRet (x2 addD (x2 addD (xSl (xV 1) pN (pI (xV 2))) (xLst (xsC (xTup (xsC (x2 subD (x2 mulD (xC (.int 2)) (x2 ixD (x2 ixD (xV 1) (x2 subD (xV 2) (xC (.int 1)))) (xC (.int 0)))) (xV 5)) (xsC (x2 subD (x2 mulD (xC (.int 2)) (x2 ixD (x2 ixD (xV 1) (x2 subD (xV 2) (xC (.int 1)))) (xC (.int 1)))) (xV 6)) (xsN)))) (xsN)))) (xSl (xV 1) (pI (xV 2)) pN))) (sN))
  (sSeq (sIf (tOf (x2 eqD (xV 4) (xC (.int 7)))) (sRet (xSl (x2 addD (xStp (xV 1) none 2) (xStp (xV 1) (some 1) 2)) pN (pI (xC (.int 12))))) (sN))
  (sSeq (sIf (tOf (x2 eqD (xV 4) (xC (.int 8)))) (sRet (xSl (x2 addD (x2 addD (xV 1) (xV 1)) (xV 1)) pN (pI (x2 addD (xC (.int 3)) (x2 modD (x2 ixD (xV 0) (xC (.int 2))) (xC (.int 10))))))) (sN))
  (sRetV 1))))))))) τ0 = some (.rt (.lst w (Q.map pO))) ∧ Bdd (3 * b + 400) Q by
    obtain ⟨w, Q, h, k⟩ := H
    refine ⟨w, Q, ?_, k⟩
    rw [hJ] at jc
    rw [← hτ0] at h
    refine fnD_of (τ := [some (.lst false Ds), some (.lst false J), none, none, none, none, none]) rfl (by rw [hJ]; show [some (O.lst false (frzs Ds)), some (O.lst false (frzs J)), _, _, _, _, _] = _; rw [fD, fJ]) ?_
    refine seq_nx (τ' := [some (.lst false Ds), some (.lst false J), some (.int n), none, none, none, none]) (by simp (config := {decide := true}) only [Dv.get, Dv.xV, Dv.xC, Dv.frz, Dv.frzs, Dv.flat, Dv.flats, Dv.clean, Dv.cleans, Dv.frzSlot, Dv.frz1, Dv.frzAt, Dv.put, Dv.addD, Dv.subD, Dv.mulD, Dv.fdivD, Dv.modD, Dv.negD, Dv.x2, Dv.x1, Dv.xsN, Dv.xsC, Dv.xTup, Dv.xLst, Dv.xCall, Dv.asB, Dv.tOf, Dv.tNot, Dv.tAnd, Dv.tOr, Dv.xB, Dv.xIf, Dv.cmpI, Dv.ltD, Dv.leD, Dv.gtD, Dv.geD, Dv.xAnd, Dv.xOr, Dv.xNot, Dv.sN, Dv.sSeq, Dv.sSet, Dv.sRet, Dv.sRetV, Dv.sIf, Dv.sBk, Dv.sCt, Dv.gN, Dv.gsN, Dv.gsC, Dv.gT, Dv.fnD, Dv.ixD, Dv.slD, Dv.pN, Dv.pI, Dv.xSl, Dv.lenD', Dv.intD, Dv.maxD, Dv.minD, Dv.allD, Dv.anyD, Dv.allB, Dv.listD, Dv.xF, Dv.isiD, Dv.eqD, Dv.neD, Dv.isND, Dv.notND, Dv.isN2, Dv.notN2, Dv.sApp, Dv.itL, Dv.itR1, Dv.itR2, Dv.rngL, Dv.zipL, Dv.zipO, Dv.itZ, Dv.enuL, Dv.enuO, Dv.itEn, Dv.wipeD, Dv.keepD, Dv.tY, Dv.sAsg, Dv.sPar, Dv.sPar3, Dv.sAugI, Dv.sDrop, Dv.at_20, Dv.at_21, Dv.at_30, Dv.at_31, Dv.at_32, Dv.at_40, Dv.at_41, Dv.at_42, Dv.at_43, Dv.at_10, Dv.frzs_ints, Dv.cleans_ints, Dv.le_sLine, Dv.sh_non, Dv.sh_bl, Dv.sh_int, Dv.sh_tup, Dv.sh_lst, Dv.eqo_int, Dv.eqo_bl, Dv.eqo_tup, Dv.eqo_lst, Dv.eqos_nil, Dv.eqos_cons, List.all_cons, List.all_nil, Dv.beq_tt, Dv.beq_ff, Dv.beq_tf, Dv.beq_ft, List.getElem?_cons_zero, List.getElem?_cons_succ, List.getElem?_nil, List.set_cons_zero, List.set_cons_succ, List.set_nil, Option.bind_some, Option.bind_none, Option.map_some, Option.map_none, if_true, if_false, ↓reduceIte, decide_true, decide_false, Bool.false_eq_true, Bool.true_and, Bool.and_true, Bool.false_and, Bool.and_false, Bool.not_true, Bool.not_false, Bool.true_or, Bool.or_true, Bool.false_or, Bool.or_false, List.cons_append, List.nil_append, List.length_cons, List.length_nil, List.map_cons, List.map_nil, List.replicate_succ, List.replicate_zero, Nat.reduceAdd, Nat.reduceSub, Nat.reduceLT, Nat.reduceEqDiff, Nat.reduceLeDiff, Int.reduceAdd, Int.reduceSub, Int.reduceMul, Int.reduceNeg, Int.reduceLT, Int.reduceLE, Int.reduceEq, Int.reduceMod, Int.reduceDiv, Int.reduceToNat, Nat.add_zero, Nat.zero_add, List.contains_cons, List.contains_nil, Nat.reduceBEq, beq_self_eq_true, reduceCtorEq, and_true, true_and, and_false, false_and, not_true_eq_false, not_false_eq_true, Dv.mulOk_sz, fD, fJ, i1, lJ, lp, hn]) ?_
    refine seq_nx (τ' := [some (.lst false Ds), some (.lst false J), some (.int n), some (.int m), none, none, none]) (by simp (config := {decide := true}) only [Dv.get, Dv.xV, Dv.xC, Dv.frz, Dv.frzs, Dv.flat, Dv.flats, Dv.clean, Dv.cleans, Dv.frzSlot, Dv.frz1, Dv.frzAt, Dv.put, Dv.addD, Dv.subD, Dv.mulD, Dv.fdivD, Dv.modD, Dv.negD, Dv.x2, Dv.x1, Dv.xsN, Dv.xsC, Dv.xTup, Dv.xLst, Dv.xCall, Dv.asB, Dv.tOf, Dv.tNot, Dv.tAnd, Dv.tOr, Dv.xB, Dv.xIf, Dv.cmpI, Dv.ltD, Dv.leD, Dv.gtD, Dv.geD, Dv.xAnd, Dv.xOr, Dv.xNot, Dv.sN, Dv.sSeq, Dv.sSet, Dv.sRet, Dv.sRetV, Dv.sIf, Dv.sBk, Dv.sCt, Dv.gN, Dv.gsN, Dv.gsC, Dv.gT, Dv.fnD, Dv.ixD, Dv.slD, Dv.pN, Dv.pI, Dv.xSl, Dv.lenD', Dv.intD, Dv.maxD, Dv.minD, Dv.allD, Dv.anyD, Dv.allB, Dv.listD, Dv.xF, Dv.isiD, Dv.eqD, Dv.neD, Dv.isND, Dv.notND, Dv.isN2, Dv.notN2, Dv.sApp, Dv.itL, Dv.itR1, Dv.itR2, Dv.rngL, Dv.zipL, Dv.zipO, Dv.itZ, Dv.enuL, Dv.enuO, Dv.itEn, Dv.wipeD, Dv.keepD, Dv.tY, Dv.sAsg, Dv.sPar, Dv.sPar3, Dv.sAugI, Dv.sDrop, Dv.at_20, Dv.at_21, Dv.at_30, Dv.at_31, Dv.at_32, Dv.at_40, Dv.at_41, Dv.at_42, Dv.at_43, Dv.at_10, Dv.frzs_ints, Dv.cleans_ints, Dv.le_sLine, Dv.sh_non, Dv.sh_bl, Dv.sh_int, Dv.sh_tup, Dv.sh_lst, Dv.eqo_int, Dv.eqo_bl, Dv.eqo_tup, Dv.eqo_lst, Dv.eqos_nil, Dv.eqos_cons, List.all_cons, List.all_nil, Dv.beq_tt, Dv.beq_ff, Dv.beq_tf, Dv.beq_ft, List.getElem?_cons_zero, List.getElem?_cons_succ, List.getElem?_nil, List.set_cons_zero, List.set_cons_succ, List.set_nil, Option.bind_some, Option.bind_none, Option.map_some, Option.map_none, if_true, if_false, ↓reduceIte, decide_true, decide_false, Bool.false_eq_true, Bool.true_and, Bool.and_true, Bool.false_and, Bool.and_false, Bool.not_true, Bool.not_false, Bool.true_or, Bool.or_true, Bool.false_or, Bool.or_false, List.cons_append, List.nil_append, List.length_cons, List.length_nil, List.map_cons, List.map_nil, List.replicate_succ, List.replicate_zero, Nat.reduceAdd, Nat.reduceSub, Nat.reduceLT, Nat.reduceEqDiff, Nat.reduceLeDiff, Int.reduceAdd, Int.reduceSub, Int.reduceMul, Int.reduceNeg, Int.reduceLT, Int.reduceLE, Int.reduceEq, Int.reduceMod, Int.reduceDiv, Int.reduceToNat, Nat.add_zero, Nat.zero_add, List.contains_cons, List.contains_nil, Nat.reduceBEq, beq_self_eq_true, reduceCtorEq, and_true, true_and, and_false, false_and, not_true_eq_false, not_false_eq_true, Dv.mulOk_sz, fD, fJ, i2, lJ, lp, hm]) ?_
    refine seq_nx (τ' := [some (.lst false Ds), some (.lst false J), some (.int n), some (.int m), some (.int W), none, none]) (by simp (config := {decide := true}) only [Dv.get, Dv.xV, Dv.xC, Dv.frz, Dv.frzs, Dv.flat, Dv.flats, Dv.clean, Dv.cleans, Dv.frzSlot, Dv.frz1, Dv.frzAt, Dv.put, Dv.addD, Dv.subD, Dv.mulD, Dv.fdivD, Dv.modD, Dv.negD, Dv.x2, Dv.x1, Dv.xsN, Dv.xsC, Dv.xTup, Dv.xLst, Dv.xCall, Dv.asB, Dv.tOf, Dv.tNot, Dv.tAnd, Dv.tOr, Dv.xB, Dv.xIf, Dv.cmpI, Dv.ltD, Dv.leD, Dv.gtD, Dv.geD, Dv.xAnd, Dv.xOr, Dv.xNot, Dv.sN, Dv.sSeq, Dv.sSet, Dv.sRet, Dv.sRetV, Dv.sIf, Dv.sBk, Dv.sCt, Dv.gN, Dv.gsN, Dv.gsC, Dv.gT, Dv.fnD, Dv.ixD, Dv.slD, Dv.pN, Dv.pI, Dv.xSl, Dv.lenD', Dv.intD, Dv.maxD, Dv.minD, Dv.allD, Dv.anyD, Dv.allB, Dv.listD, Dv.xF, Dv.isiD, Dv.eqD, Dv.neD, Dv.isND, Dv.notND, Dv.isN2, Dv.notN2, Dv.sApp, Dv.itL, Dv.itR1, Dv.itR2, Dv.rngL, Dv.zipL, Dv.zipO, Dv.itZ, Dv.enuL, Dv.enuO, Dv.itEn, Dv.wipeD, Dv.keepD, Dv.tY, Dv.sAsg, Dv.sPar, Dv.sPar3, Dv.sAugI, Dv.sDrop, Dv.at_20, Dv.at_21, Dv.at_30, Dv.at_31, Dv.at_32, Dv.at_40, Dv.at_41, Dv.at_42, Dv.at_43, Dv.at_10, Dv.frzs_ints, Dv.cleans_ints, Dv.le_sLine, Dv.sh_non, Dv.sh_bl, Dv.sh_int, Dv.sh_tup, Dv.sh_lst, Dv.eqo_int, Dv.eqo_bl, Dv.eqo_tup, Dv.eqo_lst, Dv.eqos_nil, Dv.eqos_cons, List.all_cons, List.all_nil, Dv.beq_tt, Dv.beq_ff, Dv.beq_tf, Dv.beq_ft, List.getElem?_cons_zero, List.getElem?_cons_succ, List.getElem?_nil, List.set_cons_zero, List.set_cons_succ, List.set_nil, Option.bind_some, Option.bind_none, Option.map_some, Option.map_none, if_true, if_false, ↓reduceIte, decide_true, decide_false, Bool.false_eq_true, Bool.true_and, Bool.and_true, Bool.false_and, Bool.and_false, Bool.not_true, Bool.not_false, Bool.true_or, Bool.or_true, Bool.false_or, Bool.or_false, List.cons_append, List.nil_append, List.length_cons, List.length_nil, List.map_cons, List.map_nil, List.replicate_succ, List.replicate_zero, Nat.reduceAdd, Nat.reduceSub, Nat.reduceLT, Nat.reduceEqDiff, Nat.reduceLeDiff, Int.reduceAdd, Int.reduceSub, Int.reduceMul, Int.reduceNeg, Int.reduceLT, Int.reduceLE, Int.reduceEq, Int.reduceMod, Int.reduceDiv, Int.reduceToNat, Nat.add_zero, Nat.zero_add, List.contains_cons, List.contains_nil, Nat.reduceBEq, beq_self_eq_true, reduceCtorEq, and_true, true_and, and_false, false_and, not_true_eq_false, not_false_eq_true, Dv.mulOk_sz, fD, i0, d10, hW]) ?_
    refine seq_nx (τ' := [some (.lst false Ds), some (.lst false J), some (.int n), some (.int m), some (.int W), some (.int x), some (.int y)]) (by unfold pO at jc; simp (config := {decide := true}) only [Dv.get, Dv.xV, Dv.xC, Dv.frz, Dv.frzs, Dv.flat, Dv.flats, Dv.clean, Dv.cleans, Dv.frzSlot, Dv.frz1, Dv.frzAt, Dv.put, Dv.addD, Dv.subD, Dv.mulD, Dv.fdivD, Dv.modD, Dv.negD, Dv.x2, Dv.x1, Dv.xsN, Dv.xsC, Dv.xTup, Dv.xLst, Dv.xCall, Dv.asB, Dv.tOf, Dv.tNot, Dv.tAnd, Dv.tOr, Dv.xB, Dv.xIf, Dv.cmpI, Dv.ltD, Dv.leD, Dv.gtD, Dv.geD, Dv.xAnd, Dv.xOr, Dv.xNot, Dv.sN, Dv.sSeq, Dv.sSet, Dv.sRet, Dv.sRetV, Dv.sIf, Dv.sBk, Dv.sCt, Dv.gN, Dv.gsN, Dv.gsC, Dv.gT, Dv.fnD, Dv.ixD, Dv.slD, Dv.pN, Dv.pI, Dv.xSl, Dv.lenD', Dv.intD, Dv.maxD, Dv.minD, Dv.allD, Dv.anyD, Dv.allB, Dv.listD, Dv.xF, Dv.isiD, Dv.eqD, Dv.neD, Dv.isND, Dv.notND, Dv.isN2, Dv.notN2, Dv.sApp, Dv.itL, Dv.itR1, Dv.itR2, Dv.rngL, Dv.zipL, Dv.zipO, Dv.itZ, Dv.enuL, Dv.enuO, Dv.itEn, Dv.wipeD, Dv.keepD, Dv.tY, Dv.sAsg, Dv.sPar, Dv.sPar3, Dv.sAugI, Dv.sDrop, Dv.at_20, Dv.at_21, Dv.at_30, Dv.at_31, Dv.at_32, Dv.at_40, Dv.at_41, Dv.at_42, Dv.at_43, Dv.at_10, Dv.frzs_ints, Dv.cleans_ints, Dv.le_sLine, Dv.sh_non, Dv.sh_bl, Dv.sh_int, Dv.sh_tup, Dv.sh_lst, Dv.eqo_int, Dv.eqo_bl, Dv.eqo_tup, Dv.eqo_lst, Dv.eqos_nil, Dv.eqos_cons, List.all_cons, List.all_nil, Dv.beq_tt, Dv.beq_ff, Dv.beq_tf, Dv.beq_ft, List.getElem?_cons_zero, List.getElem?_cons_succ, List.getElem?_nil, List.set_cons_zero, List.set_cons_succ, List.set_nil, Option.bind_some, Option.bind_none, Option.map_some, Option.map_none, if_true, if_false, ↓reduceIte, decide_true, decide_false, Bool.false_eq_true, Bool.true_and, Bool.and_true, Bool.false_and, Bool.and_false, Bool.not_true, Bool.not_false, Bool.true_or, Bool.or_true, Bool.false_or, Bool.or_false, List.cons_append, List.nil_append, List.length_cons, List.length_nil, List.map_cons, List.map_nil, List.replicate_succ, List.replicate_zero, Nat.reduceAdd, Nat.reduceSub, Nat.reduceLT, Nat.reduceEqDiff, Nat.reduceLeDiff, Int.reduceAdd, Int.reduceSub, Int.reduceMul, Int.reduceNeg, Int.reduceLT, Int.reduceLE, Int.reduceEq, Int.reduceMod, Int.reduceDiv, Int.reduceToNat, Nat.add_zero, Nat.zero_add, List.contains_cons, List.contains_nil, Nat.reduceBEq, beq_self_eq_true, reduceCtorEq, and_true, true_and, and_false, false_and, not_true_eq_false, not_false_eq_true, Dv.mulOk_sz, fJ, jc]) ?_
    exact h
  by_cases h1 : W = 1
  · exact fin (seq_rt (if_t (by rw [cd, decide_eq_true h1]) (ret_of (x2_of s1 s2 (addL (by omega)))))) (tk.app dr1)
  rw [seq_nx (if_f (by rw [cd, decide_eq_false h1]) rfl) rfl]
  by_cases h2 : W = 2
  · have r : x2 ixD (xV 1) (xV 3) τ0 = some (pO e) := x2_of v1 (show xV 3 τ0 = some (.int m) by rw [← hτ0]; rfl) (by exact je)
    exact fin (seq_rt (if_t (by rw [cd, decide_eq_true h2]) (ret_of (put s1 s3 (by omega) (by omega) r)))) ((tk.app (one e (by omega))).app dr)
  rw [seq_nx (if_f (by rw [cd, decide_eq_false h2]) rfl) rfl]
  by_cases h3 : W = 3
  · have r : xRev (xV 1) τ0 = some (.lst true (P.reverse.map pO)) := by
      unfold xRev
      rw [v1, Option.bind_some]
      show some (O.lst true (frzs (P.map pO)).reverse) = _
      rw [frzs_pO, List.map_reverse]
    exact fin (seq_rt (if_t (by rw [cd, decide_eq_true h3]) (ret_of r))) (sub3 fun _ => List.mem_reverse.mp)
  rw [seq_nx (if_f (by rw [cd, decide_eq_false h3]) rfl) rfl]
  by_cases h4 : W = 4
  · have r : xTup (xsC (x2 subD (x2 addD (xV 5) (x2 modD (x2 ixD (xV 0) (xC (.int 2))) (xC (.int 3)))) (xC (.int 1))) (xsC (x2 subD (x2 addD (xV 6) (x2 modD (x2 ixD (xV 0) (xC (.int 3))) (xC (.int 3)))) (xC (.int 1))) (xsN))) τ0 = some (pO (x + a2 % 3 - 1, y + a3 % 3 - 1)) := by
      rw [← hτ0]
      unfold pO
      simp (config := {decide := true}) only [Dv.get, Dv.xV, Dv.xC, Dv.frz, Dv.frzs, Dv.flat, Dv.flats, Dv.clean, Dv.cleans, Dv.frzSlot, Dv.frz1, Dv.frzAt, Dv.put, Dv.addD, Dv.subD, Dv.mulD, Dv.fdivD, Dv.modD, Dv.negD, Dv.x2, Dv.x1, Dv.xsN, Dv.xsC, Dv.xTup, Dv.xLst, Dv.xCall, Dv.asB, Dv.tOf, Dv.tNot, Dv.tAnd, Dv.tOr, Dv.xB, Dv.xIf, Dv.cmpI, Dv.ltD, Dv.leD, Dv.gtD, Dv.geD, Dv.xAnd, Dv.xOr, Dv.xNot, Dv.sN, Dv.sSeq, Dv.sSet, Dv.sRet, Dv.sRetV, Dv.sIf, Dv.sBk, Dv.sCt, Dv.gN, Dv.gsN, Dv.gsC, Dv.gT, Dv.fnD, Dv.ixD, Dv.slD, Dv.pN, Dv.pI, Dv.xSl, Dv.lenD', Dv.intD, Dv.maxD, Dv.minD, Dv.allD, Dv.anyD, Dv.allB, Dv.listD, Dv.xF, Dv.isiD, Dv.eqD, Dv.neD, Dv.isND, Dv.notND, Dv.isN2, Dv.notN2, Dv.sApp, Dv.itL, Dv.itR1, Dv.itR2, Dv.rngL, Dv.zipL, Dv.zipO, Dv.itZ, Dv.enuL, Dv.enuO, Dv.itEn, Dv.wipeD, Dv.keepD, Dv.tY, Dv.sAsg, Dv.sPar, Dv.sPar3, Dv.sAugI, Dv.sDrop, Dv.at_20, Dv.at_21, Dv.at_30, Dv.at_31, Dv.at_32, Dv.at_40, Dv.at_41, Dv.at_42, Dv.at_43, Dv.at_10, Dv.frzs_ints, Dv.cleans_ints, Dv.le_sLine, Dv.sh_non, Dv.sh_bl, Dv.sh_int, Dv.sh_tup, Dv.sh_lst, Dv.eqo_int, Dv.eqo_bl, Dv.eqo_tup, Dv.eqo_lst, Dv.eqos_nil, Dv.eqos_cons, List.all_cons, List.all_nil, Dv.beq_tt, Dv.beq_ff, Dv.beq_tf, Dv.beq_ft, List.getElem?_cons_zero, List.getElem?_cons_succ, List.getElem?_nil, List.set_cons_zero, List.set_cons_succ, List.set_nil, Option.bind_some, Option.bind_none, Option.map_some, Option.map_none, if_true, if_false, ↓reduceIte, decide_true, decide_false, Bool.false_eq_true, Bool.true_and, Bool.and_true, Bool.false_and, Bool.and_false, Bool.not_true, Bool.not_false, Bool.true_or, Bool.or_true, Bool.false_or, Bool.or_false, List.cons_append, List.nil_append, List.length_cons, List.length_nil, List.map_cons, List.map_nil, List.replicate_succ, List.replicate_zero, Nat.reduceAdd, Nat.reduceSub, Nat.reduceLT, Nat.reduceEqDiff, Nat.reduceLeDiff, Int.reduceAdd, Int.reduceSub, Int.reduceMul, Int.reduceNeg, Int.reduceLT, Int.reduceLE, Int.reduceEq, Int.reduceMod, Int.reduceDiv, Int.reduceToNat, Nat.add_zero, Nat.zero_add, List.contains_cons, List.contains_nil, Nat.reduceBEq, beq_self_eq_true, reduceCtorEq, and_true, true_and, and_false, false_and, not_true_eq_false, not_false_eq_true, Dv.mulOk_sz, fD, i2, i3, d3]
    exact fin (seq_rt (if_t (by rw [cd, decide_eq_true h4]) (ret_of (put s1 s2 (by omega) (by omega) r)))) ((tk.app (one _ (by simp only; omega))).app dr1)
  rw [seq_nx (if_f (by rw [cd, decide_eq_false h4]) rfl) rfl]
  by_cases h5 : W = 5
  · have r : xTup (xsC (x2 addD (xV 5) (x2 modD (x2 ixD (xV 0) (xC (.int 2))) (xC (.int 400)))) (xsC (x2 subD (xV 6) (x2 modD (x2 ixD (xV 0) (xC (.int 3))) (xC (.int 400)))) (xsN))) τ0 = some (pO (x + a2 % 400, y - a3 % 400)) := by
      rw [← hτ0]
      unfold pO
      simp (config := {decide := true}) only [Dv.get, Dv.xV, Dv.xC, Dv.frz, Dv.frzs, Dv.flat, Dv.flats, Dv.clean, Dv.cleans, Dv.frzSlot, Dv.frz1, Dv.frzAt, Dv.put, Dv.addD, Dv.subD, Dv.mulD, Dv.fdivD, Dv.modD, Dv.negD, Dv.x2, Dv.x1, Dv.xsN, Dv.xsC, Dv.xTup, Dv.xLst, Dv.xCall, Dv.asB, Dv.tOf, Dv.tNot, Dv.tAnd, Dv.tOr, Dv.xB, Dv.xIf, Dv.cmpI, Dv.ltD, Dv.leD, Dv.gtD, Dv.geD, Dv.xAnd, Dv.xOr, Dv.xNot, Dv.sN, Dv.sSeq, Dv.sSet, Dv.sRet, Dv.sRetV, Dv.sIf, Dv.sBk, Dv.sCt, Dv.gN, Dv.gsN, Dv.gsC, Dv.gT, Dv.fnD, Dv.ixD, Dv.slD, Dv.pN, Dv.pI, Dv.xSl, Dv.lenD', Dv.intD, Dv.maxD, Dv.minD, Dv.allD, Dv.anyD, Dv.allB, Dv.listD, Dv.xF, Dv.isiD, Dv.eqD, Dv.neD, Dv.isND, Dv.notND, Dv.isN2, Dv.notN2, Dv.sApp, Dv.itL, Dv.itR1, Dv.itR2, Dv.rngL, Dv.zipL, Dv.zipO, Dv.itZ, Dv.enuL, Dv.enuO, Dv.itEn, Dv.wipeD, Dv.keepD, Dv.tY, Dv.sAsg, Dv.sPar, Dv.sPar3, Dv.sAugI, Dv.sDrop, Dv.at_20, Dv.at_21, Dv.at_30, Dv.at_31, Dv.at_32, Dv.at_40, Dv.at_41, Dv.at_42, Dv.at_43, Dv.at_10, Dv.frzs_ints, Dv.cleans_ints, Dv.le_sLine, Dv.sh_non, Dv.sh_bl, Dv.sh_int, Dv.sh_tup, Dv.sh_lst, Dv.eqo_int, Dv.eqo_bl, Dv.eqo_tup, Dv.eqo_lst, Dv.eqos_nil, Dv.eqos_cons, List.all_cons, List.all_nil, Dv.beq_tt, Dv.beq_ff, Dv.beq_tf, Dv.beq_ft, List.getElem?_cons_zero, List.getElem?_cons_succ, List.getElem?_nil, List.set_cons_zero, List.set_cons_succ, List.set_nil, Option.bind_some, Option.bind_none, Option.map_some, Option.map_none, if_true, if_false, ↓reduceIte, decide_true, decide_false, Bool.false_eq_true, Bool.true_and, Bool.and_true, Bool.false_and, Bool.and_false, Bool.not_true, Bool.not_false, Bool.true_or, Bool.or_true, Bool.false_or, Bool.or_false, List.cons_append, List.nil_append, List.length_cons, List.length_nil, List.map_cons, List.map_nil, List.replicate_succ, List.replicate_zero, Nat.reduceAdd, Nat.reduceSub, Nat.reduceLT, Nat.reduceEqDiff, Nat.reduceLeDiff, Int.reduceAdd, Int.reduceSub, Int.reduceMul, Int.reduceNeg, Int.reduceLT, Int.reduceLE, Int.reduceEq, Int.reduceMod, Int.reduceDiv, Int.reduceToNat, Nat.add_zero, Nat.zero_add, List.contains_cons, List.contains_nil, Nat.reduceBEq, beq_self_eq_true, reduceCtorEq, and_true, true_and, and_false, false_and, not_true_eq_false, not_false_eq_true, Dv.mulOk_sz, fD, i2, i3, d400]
    exact fin (seq_rt (if_t (by rw [cd, decide_eq_true h5]) (ret_of (put s1 s2 (by omega) (by omega) r)))) ((tk.app (one _ (by simp only; omega))).app dr1)
  rw [seq_nx (if_f (by rw [cd, decide_eq_false h5]) rfl) rfl]
  by_cases h6 : W = 6
  · have r : xTup (xsC (x2 subD (x2 mulD (xC (.int 2)) (x2 ixD (x2 ixD (xV 1) (x2 subD (xV 2) (xC (.int 1)))) (xC (.int 0)))) (xV 5)) (xsC (x2 subD (x2 mulD (xC (.int 2)) (x2 ixD (x2 ixD (xV 1) (x2 subD (xV 2) (xC (.int 1)))) (xC (.int 1)))) (xV 6)) (xsN))) τ0 = some (pO (2 * p - x, 2 * q - y)) := by
      rw [← hτ0]
      rw [hJ] at hd
      unfold pO at hd ⊢
      simp (config := {decide := true}) only [Dv.get, Dv.xV, Dv.xC, Dv.frz, Dv.frzs, Dv.flat, Dv.flats, Dv.clean, Dv.cleans, Dv.frzSlot, Dv.frz1, Dv.frzAt, Dv.put, Dv.addD, Dv.subD, Dv.mulD, Dv.fdivD, Dv.modD, Dv.negD, Dv.x2, Dv.x1, Dv.xsN, Dv.xsC, Dv.xTup, Dv.xLst, Dv.xCall, Dv.asB, Dv.tOf, Dv.tNot, Dv.tAnd, Dv.tOr, Dv.xB, Dv.xIf, Dv.cmpI, Dv.ltD, Dv.leD, Dv.gtD, Dv.geD, Dv.xAnd, Dv.xOr, Dv.xNot, Dv.sN, Dv.sSeq, Dv.sSet, Dv.sRet, Dv.sRetV, Dv.sIf, Dv.sBk, Dv.sCt, Dv.gN, Dv.gsN, Dv.gsC, Dv.gT, Dv.fnD, Dv.ixD, Dv.slD, Dv.pN, Dv.pI, Dv.xSl, Dv.lenD', Dv.intD, Dv.maxD, Dv.minD, Dv.allD, Dv.anyD, Dv.allB, Dv.listD, Dv.xF, Dv.isiD, Dv.eqD, Dv.neD, Dv.isND, Dv.notND, Dv.isN2, Dv.notN2, Dv.sApp, Dv.itL, Dv.itR1, Dv.itR2, Dv.rngL, Dv.zipL, Dv.zipO, Dv.itZ, Dv.enuL, Dv.enuO, Dv.itEn, Dv.wipeD, Dv.keepD, Dv.tY, Dv.sAsg, Dv.sPar, Dv.sPar3, Dv.sAugI, Dv.sDrop, Dv.at_20, Dv.at_21, Dv.at_30, Dv.at_31, Dv.at_32, Dv.at_40, Dv.at_41, Dv.at_42, Dv.at_43, Dv.at_10, Dv.frzs_ints, Dv.cleans_ints, Dv.le_sLine, Dv.sh_non, Dv.sh_bl, Dv.sh_int, Dv.sh_tup, Dv.sh_lst, Dv.eqo_int, Dv.eqo_bl, Dv.eqo_tup, Dv.eqo_lst, Dv.eqos_nil, Dv.eqos_cons, List.all_cons, List.all_nil, Dv.beq_tt, Dv.beq_ff, Dv.beq_tf, Dv.beq_ft, List.getElem?_cons_zero, List.getElem?_cons_succ, List.getElem?_nil, List.set_cons_zero, List.set_cons_succ, List.set_nil, Option.bind_some, Option.bind_none, Option.map_some, Option.map_none, if_true, if_false, ↓reduceIte, decide_true, decide_false, Bool.false_eq_true, Bool.true_and, Bool.and_true, Bool.false_and, Bool.and_false, Bool.not_true, Bool.not_false, Bool.true_or, Bool.or_true, Bool.false_or, Bool.or_false, List.cons_append, List.nil_append, List.length_cons, List.length_nil, List.map_cons, List.map_nil, List.replicate_succ, List.replicate_zero, Nat.reduceAdd, Nat.reduceSub, Nat.reduceLT, Nat.reduceEqDiff, Nat.reduceLeDiff, Int.reduceAdd, Int.reduceSub, Int.reduceMul, Int.reduceNeg, Int.reduceLT, Int.reduceLE, Int.reduceEq, Int.reduceMod, Int.reduceDiv, Int.reduceToNat, Nat.add_zero, Nat.zero_add, List.contains_cons, List.contains_nil, Nat.reduceBEq, beq_self_eq_true, reduceCtorEq, and_true, true_and, and_false, false_and, not_true_eq_false, not_false_eq_true, Dv.mulOk_sz, fJ, hd]
    exact fin (seq_rt (if_t (by rw [cd, decide_eq_true h6]) (ret_of (put s1 s3 (by omega) (by omega) r)))) ((tk.app (one _ (by simp only; omega))).app dr)
  rw [seq_nx (if_f (by rw [cd, decide_eq_false h6]) rfl) rfl]
  by_cases h7 : W = 7
  · have st : ∀ lo, xStp (xV 1) lo 2 τ0 = some (.lst true ((stp P lo 2).map pO)) := fun lo => by
      unfold xStp
      rw [v1, Option.bind_some]
      show some (O.lst true (stp (frzs (P.map pO)) lo 2)) = _
      rw [frzs_pO, stp_map]
    have z1 := stp_len P none 2
    have z2 := stp_len P (some 1) 2
    exact fin (seq_rt (if_t (by rw [cd, decide_eq_true h7]) (ret_of (xSl_of (x2_of (st none) (st (some 1)) (addL (by omega))) rfl (show pI (xC (.int 12)) τ0 = some (some 12) from rfl) slL)))) (sub3 fun z hz => by
      rcases List.mem_append.mp (cut_mem hz) with h | h
      · exact stp_mem h
      · exact stp_mem h)
  rw [seq_nx (if_f (by rw [cd, decide_eq_false h7]) rfl) rfl]
  by_cases h8 : W = 8
  · have r : pI (x2 addD (xC (.int 3)) (x2 modD (x2 ixD (xV 0) (xC (.int 2))) (xC (.int 10)))) τ0 = some (some (3 + a2 % 10)) := by
      rw [← hτ0]
      simp (config := {decide := true}) only [Dv.get, Dv.xV, Dv.xC, Dv.frz, Dv.frzs, Dv.flat, Dv.flats, Dv.clean, Dv.cleans, Dv.frzSlot, Dv.frz1, Dv.frzAt, Dv.put, Dv.addD, Dv.subD, Dv.mulD, Dv.fdivD, Dv.modD, Dv.negD, Dv.x2, Dv.x1, Dv.xsN, Dv.xsC, Dv.xTup, Dv.xLst, Dv.xCall, Dv.asB, Dv.tOf, Dv.tNot, Dv.tAnd, Dv.tOr, Dv.xB, Dv.xIf, Dv.cmpI, Dv.ltD, Dv.leD, Dv.gtD, Dv.geD, Dv.xAnd, Dv.xOr, Dv.xNot, Dv.sN, Dv.sSeq, Dv.sSet, Dv.sRet, Dv.sRetV, Dv.sIf, Dv.sBk, Dv.sCt, Dv.gN, Dv.gsN, Dv.gsC, Dv.gT, Dv.fnD, Dv.ixD, Dv.slD, Dv.pN, Dv.pI, Dv.xSl, Dv.lenD', Dv.intD, Dv.maxD, Dv.minD, Dv.allD, Dv.anyD, Dv.allB, Dv.listD, Dv.xF, Dv.isiD, Dv.eqD, Dv.neD, Dv.isND, Dv.notND, Dv.isN2, Dv.notN2, Dv.sApp, Dv.itL, Dv.itR1, Dv.itR2, Dv.rngL, Dv.zipL, Dv.zipO, Dv.itZ, Dv.enuL, Dv.enuO, Dv.itEn, Dv.wipeD, Dv.keepD, Dv.tY, Dv.sAsg, Dv.sPar, Dv.sPar3, Dv.sAugI, Dv.sDrop, Dv.at_20, Dv.at_21, Dv.at_30, Dv.at_31, Dv.at_32, Dv.at_40, Dv.at_41, Dv.at_42, Dv.at_43, Dv.at_10, Dv.frzs_ints, Dv.cleans_ints, Dv.le_sLine, Dv.sh_non, Dv.sh_bl, Dv.sh_int, Dv.sh_tup, Dv.sh_lst, Dv.eqo_int, Dv.eqo_bl, Dv.eqo_tup, Dv.eqo_lst, Dv.eqos_nil, Dv.eqos_cons, List.all_cons, List.all_nil, Dv.beq_tt, Dv.beq_ff, Dv.beq_tf, Dv.beq_ft, List.getElem?_cons_zero, List.getElem?_cons_succ, List.getElem?_nil, List.set_cons_zero, List.set_cons_succ, List.set_nil, Option.bind_some, Option.bind_none, Option.map_some, Option.map_none, if_true, if_false, ↓reduceIte, decide_true, decide_false, Bool.false_eq_true, Bool.true_and, Bool.and_true, Bool.false_and, Bool.and_false, Bool.not_true, Bool.not_false, Bool.true_or, Bool.or_true, Bool.false_or, Bool.or_false, List.cons_append, List.nil_append, List.length_cons, List.length_nil, List.map_cons, List.map_nil, List.replicate_succ, List.replicate_zero, Nat.reduceAdd, Nat.reduceSub, Nat.reduceLT, Nat.reduceEqDiff, Nat.reduceLeDiff, Int.reduceAdd, Int.reduceSub, Int.reduceMul, Int.reduceNeg, Int.reduceLT, Int.reduceLE, Int.reduceEq, Int.reduceMod, Int.reduceDiv, Int.reduceToNat, Nat.add_zero, Nat.zero_add, List.contains_cons, List.contains_nil, Nat.reduceBEq, beq_self_eq_true, reduceCtorEq, and_true, true_and, and_false, false_and, not_true_eq_false, not_false_eq_true, Dv.mulOk_sz, fD, i2, d10]
    exact fin (seq_rt (if_t (by rw [cd, decide_eq_true h8]) (ret_of (xSl_of (x2_of (x2_of v1 v1 (addL (by omega))) v1 (addL (by rw [List.length_append]; omega))) rfl r slL)))) (sub3 fun z hz => by
      rcases List.mem_append.mp (cut_mem hz) with h | h
      · rcases List.mem_append.mp h with h | h <;> exact h
      · exact h)
  rw [seq_nx (if_f (by rw [cd, decide_eq_false h8]) rfl) rfl]
  refine ⟨false, P, ?_, sub3 fun _ h => h⟩
  rw [← hτ0, ← hJ]
  rfl
/-- a walk over a range that ends at the first number that fails -/
theorem forD_all {g : TGd} {b : SS} (Q : Sl → Prop) (p : Nat → Bool) {o : O} : ∀ (k n : Nat) (τ : Sl), (∀ i τ, n ≤ i → i < n + k → Q τ → ∃ τ1, g (.int (i : Nat)) τ = some τ1 ∧ (p i = false → b τ1 = some (.rt o)) ∧ (p i = true → ∃ τ', b τ1 = some (.nx τ') ∧ Q τ')) → Q τ →
    ((∀ i, n ≤ i → i < n + k → p i = true) ∧ ∃ τ', forD g b (rngL (n : Nat) k) τ = some (.nx τ') ∧ Q τ') ∨ ((¬ ∀ i, n ≤ i → i < n + k → p i = true) ∧ forD g b (rngL (n : Nat) k) τ = some (.rt o))
  | 0, n, τ, _, q => .inl ⟨fun i h1 h2 => by omega, τ, rfl, q⟩
  | k + 1, n, τ, h, q => by
    obtain ⟨τ1, h1, h2, h3⟩ := h n τ (Nat.le_refl _) (by omega) q
    have e : rngL (n : Nat) (k + 1) = O.int n :: rngL ((n + 1 : Nat) : Int) k := rfl
    rw [e]
    cases hp : p n with
    | false =>
      refine .inr ⟨fun H => (by have := H n (Nat.le_refl _) (by omega); rw [hp] at this; cases this), ?_⟩
      unfold forD
      rw [h1, Option.bind_some, h2 hp]
    | true =>
      obtain ⟨τ', h4, q'⟩ := h3 hp
      rw [forD_cons h1 h4]
      rcases forD_all Q p k (n + 1) τ' (fun i τ a b => h i τ (by omega) (by omega)) q' with ⟨H, z⟩ | ⟨H, z⟩
      · refine .inl ⟨fun i a b => ?_, z⟩
        by_cases c : i = n
        · rw [c]; exact hp
        · exact H i (by omega) (by omega)
      · exact .inr ⟨fun H' => H fun i a b => H' i (by omega) (by omega), z⟩
/-- one corner behind a stretch is left of it, or one of its ends -/
def okB (P : List S2) (i k : Nat) : Bool := match P[i]?, P[(i + 1) % P.length]?, P[k]? with
  | some a, some b, some c => decide (k = i) || (decide (k = (i + 1) % P.length) || decide (0 < crs3 a b c))
  | _, _, _ => true
def rowB (P : List S2) (i : Nat) : Bool := (List.range P.length).all (okB P i)
def rdB (P : List S2) : Bool := decide (3 ≤ P.length) && (decide (P.length ≤ 8) && (List.range P.length).all (rowB P))
theorem all_range {n : Nat} {p : Nat → Bool} : (∀ i, 0 ≤ i → i < 0 + n → p i = true) ↔ (List.range n).all p = true := by
  rw [List.all_eq_true]
  exact ⟨fun h i hi => h i (Nat.zero_le _) (by rw [Nat.zero_add]; exact List.mem_range.mp hi), fun h i _ hi => h i (List.mem_range.mpr (by rwa [Nat.zero_add] at hi))⟩
theorem all_ff {L : List Nat} {p : Nat → Bool} (h : ¬ L.all p = true) : L.all p = false := by
  cases z : L.all p with
  | false => rfl
  | true => exact absurd z h
theorem xs2 {a b : SE} {τ : Sl} {x y : O} (ha : a τ = some x) (hb : b τ = some y) : xsC a (xsC b xsN) τ = some [x, y] := by
  unfold xsC xsN
  rw [ha, hb]; rfl
theorem itR1_n {a : SE} {τ : Sl} {n : Nat} (ha : a τ = some (.int n)) (h : n ≤ 100000) : itR1 a τ = some (rngL 0 n) := by
  unfold itR1
  rw [ha, Option.bind_some]
  refine if_pos ⟨Int.le_trans (by decide) (show (0 : Int) ≤ n by omega), Int.lt_of_le_of_lt (show (n : Int) ≤ 100000 by omega) (by decide)⟩
section
variable {P : List S2} (hP : Bdd 100000 P) (l1 : P.length ≤ 12)
include hP l1
theorem bd_sz {c : S2} (h : c ∈ P) : Sz 1 c.1 ∧ Sz 1 c.2 := by
  obtain ⟨h1, h2⟩ := hP c h
  exact ⟨sz1 (by omega) (by omega), sz1 (by omega) (by omega)⟩
omit hP l1 in
theorem stretch_eq {a b : S2} (a1 : Sz 1 a.1) (a2 : Sz 1 a.2) (b1 : Sz 1 b.1) (b2 : Sz 1 b.2) : f_stretch [pO a, pO b] = some (pO (b.1 - a.1, b.2 - a.2)) := by
  unfold f_stretch s_stretch pO
  simp (config := {decide := true}) only [Dv.get, Dv.xV, Dv.xC, Dv.frz, Dv.frzs, Dv.flat, Dv.flats, Dv.clean, Dv.cleans, Dv.frzSlot, Dv.frz1, Dv.frzAt, Dv.put, Dv.addD, Dv.subD, Dv.mulD, Dv.fdivD, Dv.modD, Dv.negD, Dv.x2, Dv.x1, Dv.xsN, Dv.xsC, Dv.xTup, Dv.xLst, Dv.xCall, Dv.asB, Dv.tOf, Dv.tNot, Dv.tAnd, Dv.tOr, Dv.xB, Dv.xIf, Dv.cmpI, Dv.ltD, Dv.leD, Dv.gtD, Dv.geD, Dv.xAnd, Dv.xOr, Dv.xNot, Dv.sN, Dv.sSeq, Dv.sSet, Dv.sRet, Dv.sRetV, Dv.sIf, Dv.sBk, Dv.sCt, Dv.gN, Dv.gsN, Dv.gsC, Dv.gT, Dv.fnD, Dv.ixD, Dv.slD, Dv.pN, Dv.pI, Dv.xSl, Dv.lenD', Dv.intD, Dv.maxD, Dv.minD, Dv.allD, Dv.anyD, Dv.allB, Dv.listD, Dv.xF, Dv.isiD, Dv.eqD, Dv.neD, Dv.isND, Dv.notND, Dv.isN2, Dv.notN2, Dv.sApp, Dv.itL, Dv.itR1, Dv.itR2, Dv.rngL, Dv.zipL, Dv.zipO, Dv.itZ, Dv.enuL, Dv.enuO, Dv.itEn, Dv.wipeD, Dv.keepD, Dv.tY, Dv.sAsg, Dv.sPar, Dv.sPar3, Dv.sAugI, Dv.sDrop, Dv.at_20, Dv.at_21, Dv.at_30, Dv.at_31, Dv.at_32, Dv.at_40, Dv.at_41, Dv.at_42, Dv.at_43, Dv.at_10, Dv.frzs_ints, Dv.cleans_ints, Dv.le_sLine, Dv.sh_non, Dv.sh_bl, Dv.sh_int, Dv.sh_tup, Dv.sh_lst, Dv.eqo_int, Dv.eqo_bl, Dv.eqo_tup, Dv.eqo_lst, Dv.eqos_nil, Dv.eqos_cons, List.all_cons, List.all_nil, Dv.beq_tt, Dv.beq_ff, Dv.beq_tf, Dv.beq_ft, List.getElem?_cons_zero, List.getElem?_cons_succ, List.getElem?_nil, List.set_cons_zero, List.set_cons_succ, List.set_nil, Option.bind_some, Option.bind_none, Option.map_some, Option.map_none, if_true, if_false, ↓reduceIte, decide_true, decide_false, Bool.false_eq_true, Bool.true_and, Bool.and_true, Bool.false_and, Bool.and_false, Bool.not_true, Bool.not_false, Bool.true_or, Bool.or_true, Bool.false_or, Bool.or_false, List.cons_append, List.nil_append, List.length_cons, List.length_nil, List.map_cons, List.map_nil, List.replicate_succ, List.replicate_zero, Nat.reduceAdd, Nat.reduceSub, Nat.reduceLT, Nat.reduceEqDiff, Nat.reduceLeDiff, Int.reduceAdd, Int.reduceSub, Int.reduceMul, Int.reduceNeg, Int.reduceLT, Int.reduceLE, Int.reduceEq, Int.reduceMod, Int.reduceDiv, Int.reduceToNat, Nat.add_zero, Nat.zero_add, List.contains_cons, List.contains_nil, Nat.reduceBEq, beq_self_eq_true, reduceCtorEq, and_true, true_and, and_false, false_and, not_true_eq_false, not_false_eq_true, Dv.mulOk_sz, ]
omit hP l1 in
theorem turn_eq' {a b : S2} {k l m n : Nat} (a1 : Sz k a.1) (a2 : Sz l a.2) (b1 : Sz m b.1) (b2 : Sz n b.2) (hk : k + n ≤ 1000) (hl : l + m ≤ 1000) : f_turn [pO a, pO b] = some (.int (a.1 * b.2 - a.2 * b.1)) := by
  have h1 : mulOk a.1 b.2 = true := mulOk_sz (a := k) (b := n) (Nat.ble_eq_true_of_le (by omega))
  have h2 : mulOk a.2 b.1 = true := mulOk_sz (a := l) (b := m) (Nat.ble_eq_true_of_le (by omega))
  unfold f_turn s_turn pO
  simp (config := {decide := true}) only [Dv.get, Dv.xV, Dv.xC, Dv.frz, Dv.frzs, Dv.flat, Dv.flats, Dv.clean, Dv.cleans, Dv.frzSlot, Dv.frz1, Dv.frzAt, Dv.put, Dv.addD, Dv.subD, Dv.mulD, Dv.fdivD, Dv.modD, Dv.negD, Dv.x2, Dv.x1, Dv.xsN, Dv.xsC, Dv.xTup, Dv.xLst, Dv.xCall, Dv.asB, Dv.tOf, Dv.tNot, Dv.tAnd, Dv.tOr, Dv.xB, Dv.xIf, Dv.cmpI, Dv.ltD, Dv.leD, Dv.gtD, Dv.geD, Dv.xAnd, Dv.xOr, Dv.xNot, Dv.sN, Dv.sSeq, Dv.sSet, Dv.sRet, Dv.sRetV, Dv.sIf, Dv.sBk, Dv.sCt, Dv.gN, Dv.gsN, Dv.gsC, Dv.gT, Dv.fnD, Dv.ixD, Dv.slD, Dv.pN, Dv.pI, Dv.xSl, Dv.lenD', Dv.intD, Dv.maxD, Dv.minD, Dv.allD, Dv.anyD, Dv.allB, Dv.listD, Dv.xF, Dv.isiD, Dv.eqD, Dv.neD, Dv.isND, Dv.notND, Dv.isN2, Dv.notN2, Dv.sApp, Dv.itL, Dv.itR1, Dv.itR2, Dv.rngL, Dv.zipL, Dv.zipO, Dv.itZ, Dv.enuL, Dv.enuO, Dv.itEn, Dv.wipeD, Dv.keepD, Dv.tY, Dv.sAsg, Dv.sPar, Dv.sPar3, Dv.sAugI, Dv.sDrop, Dv.at_20, Dv.at_21, Dv.at_30, Dv.at_31, Dv.at_32, Dv.at_40, Dv.at_41, Dv.at_42, Dv.at_43, Dv.at_10, Dv.frzs_ints, Dv.cleans_ints, Dv.le_sLine, Dv.sh_non, Dv.sh_bl, Dv.sh_int, Dv.sh_tup, Dv.sh_lst, Dv.eqo_int, Dv.eqo_bl, Dv.eqo_tup, Dv.eqo_lst, Dv.eqos_nil, Dv.eqos_cons, List.all_cons, List.all_nil, Dv.beq_tt, Dv.beq_ff, Dv.beq_tf, Dv.beq_ft, List.getElem?_cons_zero, List.getElem?_cons_succ, List.getElem?_nil, List.set_cons_zero, List.set_cons_succ, List.set_nil, Option.bind_some, Option.bind_none, Option.map_some, Option.map_none, if_true, if_false, ↓reduceIte, decide_true, decide_false, Bool.false_eq_true, Bool.true_and, Bool.and_true, Bool.false_and, Bool.and_false, Bool.not_true, Bool.not_false, Bool.true_or, Bool.or_true, Bool.false_or, Bool.or_false, List.cons_append, List.nil_append, List.length_cons, List.length_nil, List.map_cons, List.map_nil, List.replicate_succ, List.replicate_zero, Nat.reduceAdd, Nat.reduceSub, Nat.reduceLT, Nat.reduceEqDiff, Nat.reduceLeDiff, Int.reduceAdd, Int.reduceSub, Int.reduceMul, Int.reduceNeg, Int.reduceLT, Int.reduceLE, Int.reduceEq, Int.reduceMod, Int.reduceDiv, Int.reduceToNat, Nat.add_zero, Nat.zero_add, List.contains_cons, List.contains_nil, Nat.reduceBEq, beq_self_eq_true, reduceCtorEq, and_true, true_and, and_false, false_and, not_true_eq_false, not_false_eq_true, Dv.mulOk_sz, h1, h2] <;> rfl
theorem bank_b1 {i j k : Nat} (hi : i < P.length) (hj : j = (i + 1) % P.length) (hk : k < P.length) (t5 : Option O) : ∃ t5', (okB P i k = true → b1_is_bank [some (.lst false (P.map pO)), some (.int P.length), some (.int i), some (.int j), some (.int k), t5] = some (.nx [some (.lst false (P.map pO)), some (.int P.length), some (.int i), some (.int j), some (.int k), t5'])) ∧ (okB P i k = false → b1_is_bank [some (.lst false (P.map pO)), some (.int P.length), some (.int i), some (.int j), some (.int k), t5] = some (.rt (.bl false))) := by
  have lj : j < P.length := by rw [hj]; exact Nat.mod_lt _ (by omega)
  obtain ⟨a, ha⟩ : ∃ a, P[i]? = some a := ⟨_, List.getElem?_eq_getElem hi⟩
  obtain ⟨b, hb⟩ : ∃ a, P[j]? = some a := ⟨_, List.getElem?_eq_getElem lj⟩
  obtain ⟨c, hc⟩ : ∃ a, P[k]? = some a := ⟨_, List.getElem?_eq_getElem hk⟩
  have ok : okB P i k = (decide (k = i) || (decide (k = j) || decide (0 < crs3 a b c))) := by
    unfold okB
    rw [← hj, ha, hb, hc]
  rw [ok]
  obtain ⟨a1, a2⟩ := bd_sz hP l1 (List.mem_of_getElem? ha)
  obtain ⟨b1, b2⟩ := bd_sz hP l1 (List.mem_of_getElem? hb)
  obtain ⟨c1, c2⟩ := bd_sz hP l1 (List.mem_of_getElem? hc)
  have s1 := stretch_eq a1 a2 b1 b2
  have s2 := stretch_eq a1 a2 c1 c2
  have s3 : f_turn [pO (b.1 - a.1, b.2 - a.2), pO (c.1 - a.1, c.2 - a.2)] = some (.int (crs3 a b c)) := by
    rw [turn_eq' (k := 2) (l := 2) (m := 2) (n := 2) (show Sz 2 (b.1 - a.1) from inferInstance) (show Sz 2 (b.2 - a.2) from inferInstance) (show Sz 2 (c.1 - a.1) from inferInstance) (show Sz 2 (c.2 - a.2) from inferInstance) (by decide) (by decide)]
    rfl
  have p1 := pO_at ha
  have p2 := pO_at hb
  have p3 := pO_at hc
  have fJ := frzs_pO P
  obtain ⟨J, hJ⟩ : ∃ J, P.map pO = J := ⟨_, rfl⟩
  rw [hJ] at p1 p2 p3 fJ ⊢
  have fa : frz (pO a) = pO a := rfl
  have fb : frz (pO b) = pO b := rfl
  have fc : frz (pO c) = pO c := rfl
  obtain ⟨l, hl⟩ : ∃ l, pO (b.1 - a.1, b.2 - a.2) = l := ⟨_, rfl⟩
  obtain ⟨m, hm⟩ : ∃ l, pO (c.1 - a.1, c.2 - a.2) = l := ⟨_, rfl⟩
  have fl : frz l = l ∧ clean l = true := by rw [← hl]; exact ⟨rfl, rfl⟩
  have fm : frz m = m := by rw [← hm]; rfl
  rw [hl] at s1 s3
  rw [hm] at s2 s3
  obtain ⟨fl, cl⟩ := fl
  obtain ⟨x, hx⟩ : ∃ l, pO a = l := ⟨_, rfl⟩
  obtain ⟨y, hy⟩ : ∃ l, pO b = l := ⟨_, rfl⟩
  obtain ⟨z, hz⟩ : ∃ l, pO c = l := ⟨_, rfl⟩
  rw [hx] at s1 s2 p1 fa
  rw [hy] at s1 p2 fb
  rw [hz] at s2 p3 fc
  refine ⟨some l, ?_⟩
  have st : sSet [0, 2, 0, 3] 5 (xCall f_stretch (xsC (x2 ixD (xV 0) (xV 2)) (xsC (x2 ixD (xV 0) (xV 3)) (xsN)))) [some (.lst false J), some (.int P.length), some (.int i), some (.int j), some (.int k), t5] = some (.nx [some (.lst false J), some (.int P.length), some (.int i), some (.int j), some (.int k), some l]) := by
    refine set_nx (o := l) (xCall_g (xs := [x, y]) (by simp (config := {decide := true}) only [Dv.get, Dv.xV, Dv.xC, Dv.frz, Dv.frzs, Dv.flat, Dv.flats, Dv.clean, Dv.cleans, Dv.frzSlot, Dv.frz1, Dv.frzAt, Dv.put, Dv.addD, Dv.subD, Dv.mulD, Dv.fdivD, Dv.modD, Dv.negD, Dv.x2, Dv.x1, Dv.xsN, Dv.xsC, Dv.xTup, Dv.xLst, Dv.xCall, Dv.asB, Dv.tOf, Dv.tNot, Dv.tAnd, Dv.tOr, Dv.xB, Dv.xIf, Dv.cmpI, Dv.ltD, Dv.leD, Dv.gtD, Dv.geD, Dv.xAnd, Dv.xOr, Dv.xNot, Dv.sN, Dv.sSeq, Dv.sSet, Dv.sRet, Dv.sRetV, Dv.sIf, Dv.sBk, Dv.sCt, Dv.gN, Dv.gsN, Dv.gsC, Dv.gT, Dv.fnD, Dv.ixD, Dv.slD, Dv.pN, Dv.pI, Dv.xSl, Dv.lenD', Dv.intD, Dv.maxD, Dv.minD, Dv.allD, Dv.anyD, Dv.allB, Dv.listD, Dv.xF, Dv.isiD, Dv.eqD, Dv.neD, Dv.isND, Dv.notND, Dv.isN2, Dv.notN2, Dv.sApp, Dv.itL, Dv.itR1, Dv.itR2, Dv.rngL, Dv.zipL, Dv.zipO, Dv.itZ, Dv.enuL, Dv.enuO, Dv.itEn, Dv.wipeD, Dv.keepD, Dv.tY, Dv.sAsg, Dv.sPar, Dv.sPar3, Dv.sAugI, Dv.sDrop, Dv.at_20, Dv.at_21, Dv.at_30, Dv.at_31, Dv.at_32, Dv.at_40, Dv.at_41, Dv.at_42, Dv.at_43, Dv.at_10, Dv.frzs_ints, Dv.cleans_ints, Dv.le_sLine, Dv.sh_non, Dv.sh_bl, Dv.sh_int, Dv.sh_tup, Dv.sh_lst, Dv.eqo_int, Dv.eqo_bl, Dv.eqo_tup, Dv.eqo_lst, Dv.eqos_nil, Dv.eqos_cons, List.all_cons, List.all_nil, Dv.beq_tt, Dv.beq_ff, Dv.beq_tf, Dv.beq_ft, List.getElem?_cons_zero, List.getElem?_cons_succ, List.getElem?_nil, List.set_cons_zero, List.set_cons_succ, List.set_nil, Option.bind_some, Option.bind_none, Option.map_some, Option.map_none, if_true, if_false, ↓reduceIte, decide_true, decide_false, Bool.false_eq_true, Bool.true_and, Bool.and_true, Bool.false_and, Bool.and_false, Bool.not_true, Bool.not_false, Bool.true_or, Bool.or_true, Bool.false_or, Bool.or_false, List.cons_append, List.nil_append, List.length_cons, List.length_nil, List.map_cons, List.map_nil, List.replicate_succ, List.replicate_zero, Nat.reduceAdd, Nat.reduceSub, Nat.reduceLT, Nat.reduceEqDiff, Nat.reduceLeDiff, Int.reduceAdd, Int.reduceSub, Int.reduceMul, Int.reduceNeg, Int.reduceLT, Int.reduceLE, Int.reduceEq, Int.reduceMod, Int.reduceDiv, Int.reduceToNat, Nat.add_zero, Nat.zero_add, List.contains_cons, List.contains_nil, Nat.reduceBEq, beq_self_eq_true, reduceCtorEq, and_true, true_and, and_false, false_and, not_true_eq_false, not_false_eq_true, Dv.mulOk_sz, fJ, p1, p2]) ?_) (by simp (config := {decide := true}) only [Dv.get, Dv.xV, Dv.xC, Dv.frz, Dv.frzs, Dv.flat, Dv.flats, Dv.clean, Dv.cleans, Dv.frzSlot, Dv.frz1, Dv.frzAt, Dv.put, Dv.addD, Dv.subD, Dv.mulD, Dv.fdivD, Dv.modD, Dv.negD, Dv.x2, Dv.x1, Dv.xsN, Dv.xsC, Dv.xTup, Dv.xLst, Dv.xCall, Dv.asB, Dv.tOf, Dv.tNot, Dv.tAnd, Dv.tOr, Dv.xB, Dv.xIf, Dv.cmpI, Dv.ltD, Dv.leD, Dv.gtD, Dv.geD, Dv.xAnd, Dv.xOr, Dv.xNot, Dv.sN, Dv.sSeq, Dv.sSet, Dv.sRet, Dv.sRetV, Dv.sIf, Dv.sBk, Dv.sCt, Dv.gN, Dv.gsN, Dv.gsC, Dv.gT, Dv.fnD, Dv.ixD, Dv.slD, Dv.pN, Dv.pI, Dv.xSl, Dv.lenD', Dv.intD, Dv.maxD, Dv.minD, Dv.allD, Dv.anyD, Dv.allB, Dv.listD, Dv.xF, Dv.isiD, Dv.eqD, Dv.neD, Dv.isND, Dv.notND, Dv.isN2, Dv.notN2, Dv.sApp, Dv.itL, Dv.itR1, Dv.itR2, Dv.rngL, Dv.zipL, Dv.zipO, Dv.itZ, Dv.enuL, Dv.enuO, Dv.itEn, Dv.wipeD, Dv.keepD, Dv.tY, Dv.sAsg, Dv.sPar, Dv.sPar3, Dv.sAugI, Dv.sDrop, Dv.at_20, Dv.at_21, Dv.at_30, Dv.at_31, Dv.at_32, Dv.at_40, Dv.at_41, Dv.at_42, Dv.at_43, Dv.at_10, Dv.frzs_ints, Dv.cleans_ints, Dv.le_sLine, Dv.sh_non, Dv.sh_bl, Dv.sh_int, Dv.sh_tup, Dv.sh_lst, Dv.eqo_int, Dv.eqo_bl, Dv.eqo_tup, Dv.eqo_lst, Dv.eqos_nil, Dv.eqos_cons, List.all_cons, List.all_nil, Dv.beq_tt, Dv.beq_ff, Dv.beq_tf, Dv.beq_ft, List.getElem?_cons_zero, List.getElem?_cons_succ, List.getElem?_nil, List.set_cons_zero, List.set_cons_succ, List.set_nil, Option.bind_some, Option.bind_none, Option.map_some, Option.map_none, if_true, if_false, ↓reduceIte, decide_true, decide_false, Bool.false_eq_true, Bool.true_and, Bool.and_true, Bool.false_and, Bool.and_false, Bool.not_true, Bool.not_false, Bool.true_or, Bool.or_true, Bool.false_or, Bool.or_false, List.cons_append, List.nil_append, List.length_cons, List.length_nil, List.map_cons, List.map_nil, List.replicate_succ, List.replicate_zero, Nat.reduceAdd, Nat.reduceSub, Nat.reduceLT, Nat.reduceEqDiff, Nat.reduceLeDiff, Int.reduceAdd, Int.reduceSub, Int.reduceMul, Int.reduceNeg, Int.reduceLT, Int.reduceLE, Int.reduceEq, Int.reduceMod, Int.reduceDiv, Int.reduceToNat, Nat.add_zero, Nat.zero_add, List.contains_cons, List.contains_nil, Nat.reduceBEq, beq_self_eq_true, reduceCtorEq, and_true, true_and, and_false, false_and, not_true_eq_false, not_false_eq_true, Dv.mulOk_sz, cl])
    show f_stretch [frz x, frz y] = _
    rw [fa, fb]; exact s1
  have tv : xCall f_turn (xsC (xV 5) (xsC (xCall f_stretch (xsC (x2 ixD (xV 0) (xV 2)) (xsC (x2 ixD (xV 0) (xV 4)) (xsN)))) (xsN))) [some (.lst false J), some (.int P.length), some (.int i), some (.int j), some (.int k), some l] = some (.int (crs3 a b c)) := by
    have e1 : xCall f_stretch (xsC (x2 ixD (xV 0) (xV 2)) (xsC (x2 ixD (xV 0) (xV 4)) (xsN))) [some (.lst false J), some (.int P.length), some (.int i), some (.int j), some (.int k), some l] = some m := by
      refine xCall_g (xs := [x, z]) (by simp (config := {decide := true}) only [Dv.get, Dv.xV, Dv.xC, Dv.frz, Dv.frzs, Dv.flat, Dv.flats, Dv.clean, Dv.cleans, Dv.frzSlot, Dv.frz1, Dv.frzAt, Dv.put, Dv.addD, Dv.subD, Dv.mulD, Dv.fdivD, Dv.modD, Dv.negD, Dv.x2, Dv.x1, Dv.xsN, Dv.xsC, Dv.xTup, Dv.xLst, Dv.xCall, Dv.asB, Dv.tOf, Dv.tNot, Dv.tAnd, Dv.tOr, Dv.xB, Dv.xIf, Dv.cmpI, Dv.ltD, Dv.leD, Dv.gtD, Dv.geD, Dv.xAnd, Dv.xOr, Dv.xNot, Dv.sN, Dv.sSeq, Dv.sSet, Dv.sRet, Dv.sRetV, Dv.sIf, Dv.sBk, Dv.sCt, Dv.gN, Dv.gsN, Dv.gsC, Dv.gT, Dv.fnD, Dv.ixD, Dv.slD, Dv.pN, Dv.pI, Dv.xSl, Dv.lenD', Dv.intD, Dv.maxD, Dv.minD, Dv.allD, Dv.anyD, Dv.allB, Dv.listD, Dv.xF, Dv.isiD, Dv.eqD, Dv.neD, Dv.isND, Dv.notND, Dv.isN2, Dv.notN2, Dv.sApp, Dv.itL, Dv.itR1, Dv.itR2, Dv.rngL, Dv.zipL, Dv.zipO, Dv.itZ, Dv.enuL, Dv.enuO, Dv.itEn, Dv.wipeD, Dv.keepD, Dv.tY, Dv.sAsg, Dv.sPar, Dv.sPar3, Dv.sAugI, Dv.sDrop, Dv.at_20, Dv.at_21, Dv.at_30, Dv.at_31, Dv.at_32, Dv.at_40, Dv.at_41, Dv.at_42, Dv.at_43, Dv.at_10, Dv.frzs_ints, Dv.cleans_ints, Dv.le_sLine, Dv.sh_non, Dv.sh_bl, Dv.sh_int, Dv.sh_tup, Dv.sh_lst, Dv.eqo_int, Dv.eqo_bl, Dv.eqo_tup, Dv.eqo_lst, Dv.eqos_nil, Dv.eqos_cons, List.all_cons, List.all_nil, Dv.beq_tt, Dv.beq_ff, Dv.beq_tf, Dv.beq_ft, List.getElem?_cons_zero, List.getElem?_cons_succ, List.getElem?_nil, List.set_cons_zero, List.set_cons_succ, List.set_nil, Option.bind_some, Option.bind_none, Option.map_some, Option.map_none, if_true, if_false, ↓reduceIte, decide_true, decide_false, Bool.false_eq_true, Bool.true_and, Bool.and_true, Bool.false_and, Bool.and_false, Bool.not_true, Bool.not_false, Bool.true_or, Bool.or_true, Bool.false_or, Bool.or_false, List.cons_append, List.nil_append, List.length_cons, List.length_nil, List.map_cons, List.map_nil, List.replicate_succ, List.replicate_zero, Nat.reduceAdd, Nat.reduceSub, Nat.reduceLT, Nat.reduceEqDiff, Nat.reduceLeDiff, Int.reduceAdd, Int.reduceSub, Int.reduceMul, Int.reduceNeg, Int.reduceLT, Int.reduceLE, Int.reduceEq, Int.reduceMod, Int.reduceDiv, Int.reduceToNat, Nat.add_zero, Nat.zero_add, List.contains_cons, List.contains_nil, Nat.reduceBEq, beq_self_eq_true, reduceCtorEq, and_true, true_and, and_false, false_and, not_true_eq_false, not_false_eq_true, Dv.mulOk_sz, fJ, p1, p3]) ?_
      show f_stretch [frz x, frz z] = _
      rw [fa, fc]; exact s2
    refine xCall_g (xs := [l, m]) ?_ ?_
    · exact xs2 (show some (frz l) = some l by rw [fl]) e1
    · show f_turn [frz l, frz m] = _
      rw [fl, fm]; exact s3
  have e1 : tOf (x2 neD (xV 4) (xV 2)) [some (.lst false J), some (.int P.length), some (.int i), some (.int j), some (.int k), some l] = some (!decide (k = i)) := by
    unfold tOf
    rw [x2_of (x := .int k) (y := .int i) rfl rfl (neII _ _), show decide ((k : Int) = (i : Int)) = decide (k = i) from decide_eq_decide.mpr (by omega)]
    rfl
  have e2 : tOf (x2 neD (xV 4) (xV 3)) [some (.lst false J), some (.int P.length), some (.int i), some (.int j), some (.int k), some l] = some (!decide (k = j)) := by
    unfold tOf
    rw [x2_of (x := .int k) (y := .int j) rfl rfl (neII _ _), show decide ((k : Int) = (j : Int)) = decide (k = j) from decide_eq_decide.mpr (by omega)]
    rfl
  have e3 : tOf (x2 leD (xCall f_turn (xsC (xV 5) (xsC (xCall f_stretch (xsC (x2 ixD (xV 0) (xV 2)) (xsC (x2 ixD (xV 0) (xV 4)) (xsN)))) (xsN)))) (xC (.int 0))) [some (.lst false J), some (.int P.length), some (.int i), some (.int j), some (.int k), some l] = some (!decide (0 < crs3 a b c)) := by
    unfold tOf
    rw [x2_of (f := leD) (y := .int 0) tv rfl rfl]
    show some (decide (crs3 a b c ≤ 0)) = _
    congr 1
    by_cases h : 0 < crs3 a b c
    · rw [decide_eq_true h, decide_eq_false (by omega)]; rfl
    · rw [decide_eq_false h, decide_eq_true (by omega)]; rfl
  have cond : Dv.tAnd (tOf (x2 neD (xV 4) (xV 2))) (Dv.tAnd (tOf (x2 neD (xV 4) (xV 3))) (tOf (x2 leD (xCall f_turn (xsC (xV 5) (xsC (xCall f_stretch (xsC (x2 ixD (xV 0) (xV 2)) (xsC (x2 ixD (xV 0) (xV 4)) (xsN)))) (xsN)))) (xC (.int 0))))) [some (.lst false J), some (.int P.length), some (.int i), some (.int j), some (.int k), some l] = some (!(decide (k = i) || (decide (k = j) || decide (0 < crs3 a b c)))) := by
    unfold Dv.tAnd
    rw [e1, Option.bind_some, e2, Option.bind_some, e3]
    cases decide (k = i) <;> cases decide (k = j) <;> rfl
  unfold b1_is_bank
  constructor <;> intro h
  · refine seq_nx st (if_f ?_ rfl)
    rw [cond, h]; rfl
  · refine seq_nx st (if_t ?_ rfl)
    rw [cond, h]; rfl
theorem bank_in {i : Nat} (hi : i < P.length) (t3 t4 t5 : Option O) : (rowB P i = true ∧ ∃ t3' t4' t5', b2_is_bank [some (.lst false (P.map pO)), some (.int P.length), some (.int i), t3, t4, t5] = some (.nx [some (.lst false (P.map pO)), some (.int P.length), some (.int i), t3', t4', t5'])) ∨ (rowB P i = false ∧ b2_is_bank [some (.lst false (P.map pO)), some (.int P.length), some (.int i), t3, t4, t5] = some (.rt (.bl false))) := by
  obtain ⟨j, hj⟩ : ∃ j, j = (i + 1) % P.length := ⟨_, rfl⟩
  have em : ((i : Int) + 1) % (P.length : Int) = (j : Int) := by rw [hj, Int.natCast_emod, Int.natCast_add]; rfl
  have lp : (0 < (P.length : Int)) = True := eq_true (by omega)
  have st : sSet [2, 1] 3 (x2 modD (x2 addD (xV 2) (xC (.int 1))) (xV 1)) [some (.lst false (P.map pO)), some (.int P.length), some (.int i), t3, t4, t5] = some (.nx [some (.lst false (P.map pO)), some (.int P.length), some (.int i), some (.int j), t4, t5]) := by
    obtain ⟨J, hJ⟩ : ∃ J, P.map pO = J := ⟨_, rfl⟩
    rw [hJ]
    simp (config := {decide := true}) only [Dv.get, Dv.xV, Dv.xC, Dv.frz, Dv.frzs, Dv.flat, Dv.flats, Dv.clean, Dv.cleans, Dv.frzSlot, Dv.frz1, Dv.frzAt, Dv.put, Dv.addD, Dv.subD, Dv.mulD, Dv.fdivD, Dv.modD, Dv.negD, Dv.x2, Dv.x1, Dv.xsN, Dv.xsC, Dv.xTup, Dv.xLst, Dv.xCall, Dv.asB, Dv.tOf, Dv.tNot, Dv.tAnd, Dv.tOr, Dv.xB, Dv.xIf, Dv.cmpI, Dv.ltD, Dv.leD, Dv.gtD, Dv.geD, Dv.xAnd, Dv.xOr, Dv.xNot, Dv.sN, Dv.sSeq, Dv.sSet, Dv.sRet, Dv.sRetV, Dv.sIf, Dv.sBk, Dv.sCt, Dv.gN, Dv.gsN, Dv.gsC, Dv.gT, Dv.fnD, Dv.ixD, Dv.slD, Dv.pN, Dv.pI, Dv.xSl, Dv.lenD', Dv.intD, Dv.maxD, Dv.minD, Dv.allD, Dv.anyD, Dv.allB, Dv.listD, Dv.xF, Dv.isiD, Dv.eqD, Dv.neD, Dv.isND, Dv.notND, Dv.isN2, Dv.notN2, Dv.sApp, Dv.itL, Dv.itR1, Dv.itR2, Dv.rngL, Dv.zipL, Dv.zipO, Dv.itZ, Dv.enuL, Dv.enuO, Dv.itEn, Dv.wipeD, Dv.keepD, Dv.tY, Dv.sAsg, Dv.sPar, Dv.sPar3, Dv.sAugI, Dv.sDrop, Dv.at_20, Dv.at_21, Dv.at_30, Dv.at_31, Dv.at_32, Dv.at_40, Dv.at_41, Dv.at_42, Dv.at_43, Dv.at_10, Dv.frzs_ints, Dv.cleans_ints, Dv.le_sLine, Dv.sh_non, Dv.sh_bl, Dv.sh_int, Dv.sh_tup, Dv.sh_lst, Dv.eqo_int, Dv.eqo_bl, Dv.eqo_tup, Dv.eqo_lst, Dv.eqos_nil, Dv.eqos_cons, List.all_cons, List.all_nil, Dv.beq_tt, Dv.beq_ff, Dv.beq_tf, Dv.beq_ft, List.getElem?_cons_zero, List.getElem?_cons_succ, List.getElem?_nil, List.set_cons_zero, List.set_cons_succ, List.set_nil, Option.bind_some, Option.bind_none, Option.map_some, Option.map_none, if_true, if_false, ↓reduceIte, decide_true, decide_false, Bool.false_eq_true, Bool.true_and, Bool.and_true, Bool.false_and, Bool.and_false, Bool.not_true, Bool.not_false, Bool.true_or, Bool.or_true, Bool.false_or, Bool.or_false, List.cons_append, List.nil_append, List.length_cons, List.length_nil, List.map_cons, List.map_nil, List.replicate_succ, List.replicate_zero, Nat.reduceAdd, Nat.reduceSub, Nat.reduceLT, Nat.reduceEqDiff, Nat.reduceLeDiff, Int.reduceAdd, Int.reduceSub, Int.reduceMul, Int.reduceNeg, Int.reduceLT, Int.reduceLE, Int.reduceEq, Int.reduceMod, Int.reduceDiv, Int.reduceToNat, Nat.add_zero, Nat.zero_add, List.contains_cons, List.contains_nil, Nat.reduceBEq, beq_self_eq_true, reduceCtorEq, and_true, true_and, and_false, false_and, not_true_eq_false, not_false_eq_true, Dv.mulOk_sz, lp, em]
  have rk : itR1 (xV 1) [some (.lst false (P.map pO)), some (.int P.length), some (.int i), some (.int j), t4, t5] = some (rngL 0 P.length) := itR1_n rfl (by omega)
  have lo := forD_all (g := gN 4) (b := b1_is_bank) (o := .bl false) (fun τ => ∃ t4 t5, τ = [some (.lst false (P.map pO)), some (.int P.length), some (.int i), some (.int j), t4, t5]) (okB P i) P.length 0 [some (.lst false (P.map pO)), some (.int P.length), some (.int i), some (.int j), t4, t5] (fun k τ _ hk q => by
    obtain ⟨t4, t5, rfl⟩ := q
    obtain ⟨t5', h1, h2⟩ := bank_b1 hP l1 hi hj (k := k) (by omega) t5
    exact ⟨_, rfl, h2, fun h => ⟨_, h1 h, _, _, rfl⟩⟩) ⟨t4, t5, rfl⟩
  rw [all_range] at lo
  have run : ∀ r, forD (gN 4) b1_is_bank (rngL ((0 : Nat) : Int) P.length) [some (.lst false (P.map pO)), some (.int P.length), some (.int i), some (.int j), t4, t5] = r → b2_is_bank [some (.lst false (P.map pO)), some (.int P.length), some (.int i), t3, t4, t5] = r := fun r hr => by
    unfold b2_is_bank
    refine seq_nx st ?_
    unfold sFor
    rw [rk, Option.bind_some, frzs_rng]
    exact hr
  rcases lo with ⟨h, τ', e, t4', t5', rfl⟩ | ⟨h, e⟩
  · exact .inl ⟨h, _, _, _, run _ e⟩
  · exact .inr ⟨all_ff h, run _ e⟩
theorem is_bank_eq (o : Bool) : f_is_bank [.lst o (P.map pO)] = some (.bl (rdB P)) := by
  have fJ := frzs_pO P
  have lJ : ((P.map pO).length : Int) = (P.length : Int) := by rw [List.length_map]
  unfold f_is_bank s_is_bank
  refine fnD_of (τ := [some (.lst false (P.map pO)), none, none, none, none, none]) rfl (by show [some (O.lst false (frzs (P.map pO))), none, none, none, none, none] = _; rw [fJ]) ?_
  have s1 : sSet [0] 1 (xF lenD' (xsC (xV 0) (xsN))) [some (.lst false (P.map pO)), none, none, none, none, none] = some (.nx [some (.lst false (P.map pO)), some (.int P.length), none, none, none, none]) := by
    obtain ⟨J, hJ⟩ : ∃ J, P.map pO = J := ⟨_, rfl⟩
    rw [hJ] at fJ lJ ⊢
    simp (config := {decide := true}) only [Dv.get, Dv.xV, Dv.xC, Dv.frz, Dv.frzs, Dv.flat, Dv.flats, Dv.clean, Dv.cleans, Dv.frzSlot, Dv.frz1, Dv.frzAt, Dv.put, Dv.addD, Dv.subD, Dv.mulD, Dv.fdivD, Dv.modD, Dv.negD, Dv.x2, Dv.x1, Dv.xsN, Dv.xsC, Dv.xTup, Dv.xLst, Dv.xCall, Dv.asB, Dv.tOf, Dv.tNot, Dv.tAnd, Dv.tOr, Dv.xB, Dv.xIf, Dv.cmpI, Dv.ltD, Dv.leD, Dv.gtD, Dv.geD, Dv.xAnd, Dv.xOr, Dv.xNot, Dv.sN, Dv.sSeq, Dv.sSet, Dv.sRet, Dv.sRetV, Dv.sIf, Dv.sBk, Dv.sCt, Dv.gN, Dv.gsN, Dv.gsC, Dv.gT, Dv.fnD, Dv.ixD, Dv.slD, Dv.pN, Dv.pI, Dv.xSl, Dv.lenD', Dv.intD, Dv.maxD, Dv.minD, Dv.allD, Dv.anyD, Dv.allB, Dv.listD, Dv.xF, Dv.isiD, Dv.eqD, Dv.neD, Dv.isND, Dv.notND, Dv.isN2, Dv.notN2, Dv.sApp, Dv.itL, Dv.itR1, Dv.itR2, Dv.rngL, Dv.zipL, Dv.zipO, Dv.itZ, Dv.enuL, Dv.enuO, Dv.itEn, Dv.wipeD, Dv.keepD, Dv.tY, Dv.sAsg, Dv.sPar, Dv.sPar3, Dv.sAugI, Dv.sDrop, Dv.at_20, Dv.at_21, Dv.at_30, Dv.at_31, Dv.at_32, Dv.at_40, Dv.at_41, Dv.at_42, Dv.at_43, Dv.at_10, Dv.frzs_ints, Dv.cleans_ints, Dv.le_sLine, Dv.sh_non, Dv.sh_bl, Dv.sh_int, Dv.sh_tup, Dv.sh_lst, Dv.eqo_int, Dv.eqo_bl, Dv.eqo_tup, Dv.eqo_lst, Dv.eqos_nil, Dv.eqos_cons, List.all_cons, List.all_nil, Dv.beq_tt, Dv.beq_ff, Dv.beq_tf, Dv.beq_ft, List.getElem?_cons_zero, List.getElem?_cons_succ, List.getElem?_nil, List.set_cons_zero, List.set_cons_succ, List.set_nil, Option.bind_some, Option.bind_none, Option.map_some, Option.map_none, if_true, if_false, ↓reduceIte, decide_true, decide_false, Bool.false_eq_true, Bool.true_and, Bool.and_true, Bool.false_and, Bool.and_false, Bool.not_true, Bool.not_false, Bool.true_or, Bool.or_true, Bool.false_or, Bool.or_false, List.cons_append, List.nil_append, List.length_cons, List.length_nil, List.map_cons, List.map_nil, List.replicate_succ, List.replicate_zero, Nat.reduceAdd, Nat.reduceSub, Nat.reduceLT, Nat.reduceEqDiff, Nat.reduceLeDiff, Int.reduceAdd, Int.reduceSub, Int.reduceMul, Int.reduceNeg, Int.reduceLT, Int.reduceLE, Int.reduceEq, Int.reduceMod, Int.reduceDiv, Int.reduceToNat, Nat.add_zero, Nat.zero_add, List.contains_cons, List.contains_nil, Nat.reduceBEq, beq_self_eq_true, reduceCtorEq, and_true, true_and, and_false, false_and, not_true_eq_false, not_false_eq_true, Dv.mulOk_sz, fJ, lJ]
  refine seq_nx s1 ?_
  have cond : Dv.tOr (tOf (x2 ltD (xV 1) (xC (.int 3)))) (tOf (x2 gtD (xV 1) (xC (.int 8)))) [some (.lst false (P.map pO)), some (.int P.length), none, none, none, none] = some (decide (P.length < 3) || decide (8 < P.length)) := by
    show (Option.bind (some (decide ((P.length : Int) < 3))) fun x => if x = true then some true else some (decide ((8 : Int) < P.length))) = _
    rw [Option.bind_some, show decide ((P.length : Int) < 3) = decide (P.length < 3) from decide_eq_decide.mpr (by omega), show decide ((8 : Int) < P.length) = decide (8 < P.length) from decide_eq_decide.mpr (by omega)]
    cases decide (P.length < 3) <;> rfl
  by_cases hs : P.length < 3 ∨ 8 < P.length
  · have : rdB P = false := by
      unfold rdB
      rcases hs with h | h
      · rw [decide_eq_false (show ¬ 3 ≤ P.length by omega)]; rfl
      · rw [decide_eq_false (show ¬ P.length ≤ 8 by omega), Bool.false_and, Bool.and_false]
    rw [this]
    refine seq_rt (if_t ?_ rfl)
    rw [cond]
    rcases hs with h | h
    · rw [decide_eq_true h]; rfl
    · rw [decide_eq_true h, Bool.or_true]
  · have h3 : 3 ≤ P.length ∧ P.length ≤ 8 := by omega
    have e : rdB P = (List.range P.length).all (rowB P) := by
      unfold rdB
      rw [decide_eq_true h3.1, decide_eq_true h3.2, Bool.true_and, Bool.true_and]
    rw [e]
    refine seq_nx (if_f (by rw [cond, decide_eq_false (by omega), decide_eq_false (by omega)]; rfl) rfl) ?_
    have rk : itR1 (xV 1) [some (.lst false (P.map pO)), some (.int P.length), none, none, none, none] = some (rngL 0 P.length) := itR1_n rfl (by omega)
    have lo := forD_all (g := gN 2) (b := b2_is_bank) (o := .bl false) (fun τ => ∃ t2 t3 t4 t5, τ = [some (.lst false (P.map pO)), some (.int P.length), t2, t3, t4, t5]) (rowB P) P.length 0 [some (.lst false (P.map pO)), some (.int P.length), none, none, none, none] (fun k τ _ hk q => by
      obtain ⟨t2, t3, t4, t5, rfl⟩ := q
      rcases bank_in hP l1 (i := k) (by omega) t3 t4 t5 with ⟨h, t3', t4', t5', e⟩ | ⟨h, e⟩
      · exact ⟨_, rfl, fun z => by (rw [h] at z; cases z), fun _ => ⟨_, e, _, _, _, _, rfl⟩⟩
      · exact ⟨_, rfl, fun _ => e, fun z => by (rw [h] at z; cases z)⟩) ⟨none, none, none, none, rfl⟩
    rw [all_range] at lo
    have run : sFor [] (itR1 (xV 1)) (gN 2) (b2_is_bank) [some (.lst false (P.map pO)), some (.int P.length), none, none, none, none] = forD (gN 2) b2_is_bank (rngL ((0 : Nat) : Int) P.length) [some (.lst false (P.map pO)), some (.int P.length), none, none, none, none] := by
      unfold sFor
      rw [rk, Option.bind_some, frzs_rng]
      rfl
    rcases lo with ⟨h, τ', e, _⟩ | ⟨h, e⟩
    · rw [h]
      exact seq_nx (run.trans e) rfl
    · rw [all_ff h]
      exact seq_rt (run.trans e)
theorem round_b1 {i j k : Nat} (hi : i < P.length) (hj : j = (i + 1) % P.length) (hk : k < P.length) {a b : S2} (ha : P[i]? = some a) (hb : P[j]? = some b) (t8 t9 : Option O) : ∃ t8' t9', (okB P i k = true → b1__law_is_round [some (.lst false (P.map pO)), some (.int P.length), some (.int i), some (.int a.1), some (.int a.2), some (.int b.1), some (.int b.2), some (.int k), t8, t9] = some (.nx [some (.lst false (P.map pO)), some (.int P.length), some (.int i), some (.int a.1), some (.int a.2), some (.int b.1), some (.int b.2), some (.int k), t8', t9'])) ∧ (okB P i k = false → b1__law_is_round [some (.lst false (P.map pO)), some (.int P.length), some (.int i), some (.int a.1), some (.int a.2), some (.int b.1), some (.int b.2), some (.int k), t8, t9] = some (.rt (.bl false))) := by
  obtain ⟨c, hc⟩ : ∃ a, P[k]? = some a := ⟨_, List.getElem?_eq_getElem hk⟩
  have ok : okB P i k = (decide (k = i) || (decide (k = j) || decide (0 < crs3 a b c))) := by
    unfold okB
    rw [← hj, ha, hb, hc]
  rw [ok]
  obtain ⟨a1, a2⟩ := bd_sz hP l1 (List.mem_of_getElem? ha)
  obtain ⟨b1, b2⟩ := bd_sz hP l1 (List.mem_of_getElem? hb)
  obtain ⟨c1, c2⟩ := bd_sz hP l1 (List.mem_of_getElem? hc)
  have p3 := pO_at hc
  have fJ := frzs_pO P
  have em : ((i : Int) + 1) % (P.length : Int) = (j : Int) := by rw [hj, Int.natCast_emod, Int.natCast_add]; rfl
  have lp : (0 < (P.length : Int)) = True := eq_true (by omega)
  obtain ⟨J, hJ⟩ : ∃ J, P.map pO = J := ⟨_, rfl⟩
  rw [hJ] at p3 fJ ⊢
  obtain ⟨x, y⟩ := a
  obtain ⟨p, q⟩ := b
  obtain ⟨r, s⟩ := c
  simp only at a1 a2 b1 b2 c1 c2
  obtain ⟨τ0, hτ0⟩ : ∃ τ0 : Sl, [some (.lst false J), some (.int P.length), some (.int i), some (.int x), some (.int y), some (.int p), some (.int q), some (.int k), t8, t9] = τ0 := ⟨_, rfl⟩
  have e1 : tOf (x2 neD (xV 7) (xV 2)) τ0 = some (!decide (k = i)) := by
    rw [← hτ0]
    unfold tOf
    rw [x2_of (x := .int k) (y := .int i) rfl rfl (neII _ _), show decide ((k : Int) = (i : Int)) = decide (k = i) from decide_eq_decide.mpr (by omega)]
    rfl
  have e2 : tOf (x2 neD (xV 7) (x2 modD (x2 addD (xV 2) (xC (.int 1))) (xV 1))) τ0 = some (!decide (k = j)) := by
    rw [← hτ0]
    unfold tOf
    rw [x2_of (x := .int k) (y := .int j) rfl (by simp (config := {decide := true}) only [Dv.get, Dv.xV, Dv.xC, Dv.frz, Dv.frzs, Dv.flat, Dv.flats, Dv.clean, Dv.cleans, Dv.frzSlot, Dv.frz1, Dv.frzAt, Dv.put, Dv.addD, Dv.subD, Dv.mulD, Dv.fdivD, Dv.modD, Dv.negD, Dv.x2, Dv.x1, Dv.xsN, Dv.xsC, Dv.xTup, Dv.xLst, Dv.xCall, Dv.asB, Dv.tOf, Dv.tNot, Dv.tAnd, Dv.tOr, Dv.xB, Dv.xIf, Dv.cmpI, Dv.ltD, Dv.leD, Dv.gtD, Dv.geD, Dv.xAnd, Dv.xOr, Dv.xNot, Dv.sN, Dv.sSeq, Dv.sSet, Dv.sRet, Dv.sRetV, Dv.sIf, Dv.sBk, Dv.sCt, Dv.gN, Dv.gsN, Dv.gsC, Dv.gT, Dv.fnD, Dv.ixD, Dv.slD, Dv.pN, Dv.pI, Dv.xSl, Dv.lenD', Dv.intD, Dv.maxD, Dv.minD, Dv.allD, Dv.anyD, Dv.allB, Dv.listD, Dv.xF, Dv.isiD, Dv.eqD, Dv.neD, Dv.isND, Dv.notND, Dv.isN2, Dv.notN2, Dv.sApp, Dv.itL, Dv.itR1, Dv.itR2, Dv.rngL, Dv.zipL, Dv.zipO, Dv.itZ, Dv.enuL, Dv.enuO, Dv.itEn, Dv.wipeD, Dv.keepD, Dv.tY, Dv.sAsg, Dv.sPar, Dv.sPar3, Dv.sAugI, Dv.sDrop, Dv.at_20, Dv.at_21, Dv.at_30, Dv.at_31, Dv.at_32, Dv.at_40, Dv.at_41, Dv.at_42, Dv.at_43, Dv.at_10, Dv.frzs_ints, Dv.cleans_ints, Dv.le_sLine, Dv.sh_non, Dv.sh_bl, Dv.sh_int, Dv.sh_tup, Dv.sh_lst, Dv.eqo_int, Dv.eqo_bl, Dv.eqo_tup, Dv.eqo_lst, Dv.eqos_nil, Dv.eqos_cons, List.all_cons, List.all_nil, Dv.beq_tt, Dv.beq_ff, Dv.beq_tf, Dv.beq_ft, List.getElem?_cons_zero, List.getElem?_cons_succ, List.getElem?_nil, List.set_cons_zero, List.set_cons_succ, List.set_nil, Option.bind_some, Option.bind_none, Option.map_some, Option.map_none, if_true, if_false, ↓reduceIte, decide_true, decide_false, Bool.false_eq_true, Bool.true_and, Bool.and_true, Bool.false_and, Bool.and_false, Bool.not_true, Bool.not_false, Bool.true_or, Bool.or_true, Bool.false_or, Bool.or_false, List.cons_append, List.nil_append, List.length_cons, List.length_nil, List.map_cons, List.map_nil, List.replicate_succ, List.replicate_zero, Nat.reduceAdd, Nat.reduceSub, Nat.reduceLT, Nat.reduceEqDiff, Nat.reduceLeDiff, Int.reduceAdd, Int.reduceSub, Int.reduceMul, Int.reduceNeg, Int.reduceLT, Int.reduceLE, Int.reduceEq, Int.reduceMod, Int.reduceDiv, Int.reduceToNat, Nat.add_zero, Nat.zero_add, List.contains_cons, List.contains_nil, Nat.reduceBEq, beq_self_eq_true, reduceCtorEq, and_true, true_and, and_false, false_and, not_true_eq_false, not_false_eq_true, Dv.mulOk_sz, lp, em]) (neII _ _), show decide ((k : Int) = (j : Int)) = decide (k = j) from decide_eq_decide.mpr (by omega)]
    rfl
  have cond : Dv.tAnd (tOf (x2 neD (xV 7) (xV 2))) (tOf (x2 neD (xV 7) (x2 modD (x2 addD (xV 2) (xC (.int 1))) (xV 1)))) τ0 = some (!decide (k = i) && !decide (k = j)) := by
    unfold Dv.tAnd
    rw [e1, Option.bind_some, e2]
    cases decide (k = i) <;> rfl
  by_cases hz : k = i ∨ k = j
  · refine ⟨t8, t9, fun _ => ?_, fun h => ?_⟩
    · rw [hτ0]
      unfold b1__law_is_round
      refine if_f ?_ rfl
      rw [cond]
      rcases hz with h | h
      · rw [decide_eq_true h]; rfl
      · rw [decide_eq_true h]; cases decide (k = i) <;> rfl
    · exfalso
      rcases hz with z | z
      · rw [decide_eq_true z] at h; cases h
      · rw [decide_eq_true z] at h; simp at h
  · have z1 : k ≠ i := fun h => hz (.inl h)
    have z2 : k ≠ j := fun h => hz (.inr h)
    rw [decide_eq_false z1, decide_eq_false z2, Bool.false_or, Bool.false_or]
    have ct : Dv.tAnd (tOf (x2 neD (xV 7) (xV 2))) (tOf (x2 neD (xV 7) (x2 modD (x2 addD (xV 2) (xC (.int 1))) (xV 1)))) τ0 = some true := by
      rw [cond, decide_eq_false z1, decide_eq_false z2]; rfl
    have st : sAsg [0, 7] (x2 ixD (xV 0) (xV 7)) (gT 2 (gsC (gN 8) (gsC (gN 9) (gsN)))) τ0 = some (.nx [some (.lst false J), some (.int P.length), some (.int i), some (.int x), some (.int y), some (.int p), some (.int q), some (.int k), some (.int r), some (.int s)]) := by
      rw [← hτ0]
      unfold pO at p3
      simp (config := {decide := true}) only [Dv.get, Dv.xV, Dv.xC, Dv.frz, Dv.frzs, Dv.flat, Dv.flats, Dv.clean, Dv.cleans, Dv.frzSlot, Dv.frz1, Dv.frzAt, Dv.put, Dv.addD, Dv.subD, Dv.mulD, Dv.fdivD, Dv.modD, Dv.negD, Dv.x2, Dv.x1, Dv.xsN, Dv.xsC, Dv.xTup, Dv.xLst, Dv.xCall, Dv.asB, Dv.tOf, Dv.tNot, Dv.tAnd, Dv.tOr, Dv.xB, Dv.xIf, Dv.cmpI, Dv.ltD, Dv.leD, Dv.gtD, Dv.geD, Dv.xAnd, Dv.xOr, Dv.xNot, Dv.sN, Dv.sSeq, Dv.sSet, Dv.sRet, Dv.sRetV, Dv.sIf, Dv.sBk, Dv.sCt, Dv.gN, Dv.gsN, Dv.gsC, Dv.gT, Dv.fnD, Dv.ixD, Dv.slD, Dv.pN, Dv.pI, Dv.xSl, Dv.lenD', Dv.intD, Dv.maxD, Dv.minD, Dv.allD, Dv.anyD, Dv.allB, Dv.listD, Dv.xF, Dv.isiD, Dv.eqD, Dv.neD, Dv.isND, Dv.notND, Dv.isN2, Dv.notN2, Dv.sApp, Dv.itL, Dv.itR1, Dv.itR2, Dv.rngL, Dv.zipL, Dv.zipO, Dv.itZ, Dv.enuL, Dv.enuO, Dv.itEn, Dv.wipeD, Dv.keepD, Dv.tY, Dv.sAsg, Dv.sPar, Dv.sPar3, Dv.sAugI, Dv.sDrop, Dv.at_20, Dv.at_21, Dv.at_30, Dv.at_31, Dv.at_32, Dv.at_40, Dv.at_41, Dv.at_42, Dv.at_43, Dv.at_10, Dv.frzs_ints, Dv.cleans_ints, Dv.le_sLine, Dv.sh_non, Dv.sh_bl, Dv.sh_int, Dv.sh_tup, Dv.sh_lst, Dv.eqo_int, Dv.eqo_bl, Dv.eqo_tup, Dv.eqo_lst, Dv.eqos_nil, Dv.eqos_cons, List.all_cons, List.all_nil, Dv.beq_tt, Dv.beq_ff, Dv.beq_tf, Dv.beq_ft, List.getElem?_cons_zero, List.getElem?_cons_succ, List.getElem?_nil, List.set_cons_zero, List.set_cons_succ, List.set_nil, Option.bind_some, Option.bind_none, Option.map_some, Option.map_none, if_true, if_false, ↓reduceIte, decide_true, decide_false, Bool.false_eq_true, Bool.true_and, Bool.and_true, Bool.false_and, Bool.and_false, Bool.not_true, Bool.not_false, Bool.true_or, Bool.or_true, Bool.false_or, Bool.or_false, List.cons_append, List.nil_append, List.length_cons, List.length_nil, List.map_cons, List.map_nil, List.replicate_succ, List.replicate_zero, Nat.reduceAdd, Nat.reduceSub, Nat.reduceLT, Nat.reduceEqDiff, Nat.reduceLeDiff, Int.reduceAdd, Int.reduceSub, Int.reduceMul, Int.reduceNeg, Int.reduceLT, Int.reduceLE, Int.reduceEq, Int.reduceMod, Int.reduceDiv, Int.reduceToNat, Nat.add_zero, Nat.zero_add, List.contains_cons, List.contains_nil, Nat.reduceBEq, beq_self_eq_true, reduceCtorEq, and_true, true_and, and_false, false_and, not_true_eq_false, not_false_eq_true, Dv.mulOk_sz, fJ, p3]
    have e3 : tOf (x2 leD (x2 subD (x2 mulD (x2 subD (xV 5) (xV 3)) (x2 subD (xV 9) (xV 4))) (x2 mulD (x2 subD (xV 6) (xV 4)) (x2 subD (xV 8) (xV 3)))) (xC (.int 0))) [some (.lst false J), some (.int P.length), some (.int i), some (.int x), some (.int y), some (.int p), some (.int q), some (.int k), some (.int r), some (.int s)] = some (!decide (0 < crs3 (x, y) (p, q) (r, s))) := by
      have : (x2 subD (x2 mulD (x2 subD (xV 5) (xV 3)) (x2 subD (xV 9) (xV 4))) (x2 mulD (x2 subD (xV 6) (xV 4)) (x2 subD (xV 8) (xV 3)))) [some (.lst false J), some (.int P.length), some (.int i), some (.int x), some (.int y), some (.int p), some (.int q), some (.int k), some (.int r), some (.int s)] = some (.int (crs3 (x, y) (p, q) (r, s))) := by
        unfold crs3
        simp (config := {decide := true}) only [Dv.get, Dv.xV, Dv.xC, Dv.frz, Dv.frzs, Dv.flat, Dv.flats, Dv.clean, Dv.cleans, Dv.frzSlot, Dv.frz1, Dv.frzAt, Dv.put, Dv.addD, Dv.subD, Dv.mulD, Dv.fdivD, Dv.modD, Dv.negD, Dv.x2, Dv.x1, Dv.xsN, Dv.xsC, Dv.xTup, Dv.xLst, Dv.xCall, Dv.asB, Dv.tOf, Dv.tNot, Dv.tAnd, Dv.tOr, Dv.xB, Dv.xIf, Dv.cmpI, Dv.ltD, Dv.leD, Dv.gtD, Dv.geD, Dv.xAnd, Dv.xOr, Dv.xNot, Dv.sN, Dv.sSeq, Dv.sSet, Dv.sRet, Dv.sRetV, Dv.sIf, Dv.sBk, Dv.sCt, Dv.gN, Dv.gsN, Dv.gsC, Dv.gT, Dv.fnD, Dv.ixD, Dv.slD, Dv.pN, Dv.pI, Dv.xSl, Dv.lenD', Dv.intD, Dv.maxD, Dv.minD, Dv.allD, Dv.anyD, Dv.allB, Dv.listD, Dv.xF, Dv.isiD, Dv.eqD, Dv.neD, Dv.isND, Dv.notND, Dv.isN2, Dv.notN2, Dv.sApp, Dv.itL, Dv.itR1, Dv.itR2, Dv.rngL, Dv.zipL, Dv.zipO, Dv.itZ, Dv.enuL, Dv.enuO, Dv.itEn, Dv.wipeD, Dv.keepD, Dv.tY, Dv.sAsg, Dv.sPar, Dv.sPar3, Dv.sAugI, Dv.sDrop, Dv.at_20, Dv.at_21, Dv.at_30, Dv.at_31, Dv.at_32, Dv.at_40, Dv.at_41, Dv.at_42, Dv.at_43, Dv.at_10, Dv.frzs_ints, Dv.cleans_ints, Dv.le_sLine, Dv.sh_non, Dv.sh_bl, Dv.sh_int, Dv.sh_tup, Dv.sh_lst, Dv.eqo_int, Dv.eqo_bl, Dv.eqo_tup, Dv.eqo_lst, Dv.eqos_nil, Dv.eqos_cons, List.all_cons, List.all_nil, Dv.beq_tt, Dv.beq_ff, Dv.beq_tf, Dv.beq_ft, List.getElem?_cons_zero, List.getElem?_cons_succ, List.getElem?_nil, List.set_cons_zero, List.set_cons_succ, List.set_nil, Option.bind_some, Option.bind_none, Option.map_some, Option.map_none, if_true, if_false, ↓reduceIte, decide_true, decide_false, Bool.false_eq_true, Bool.true_and, Bool.and_true, Bool.false_and, Bool.and_false, Bool.not_true, Bool.not_false, Bool.true_or, Bool.or_true, Bool.false_or, Bool.or_false, List.cons_append, List.nil_append, List.length_cons, List.length_nil, List.map_cons, List.map_nil, List.replicate_succ, List.replicate_zero, Nat.reduceAdd, Nat.reduceSub, Nat.reduceLT, Nat.reduceEqDiff, Nat.reduceLeDiff, Int.reduceAdd, Int.reduceSub, Int.reduceMul, Int.reduceNeg, Int.reduceLT, Int.reduceLE, Int.reduceEq, Int.reduceMod, Int.reduceDiv, Int.reduceToNat, Nat.add_zero, Nat.zero_add, List.contains_cons, List.contains_nil, Nat.reduceBEq, beq_self_eq_true, reduceCtorEq, and_true, true_and, and_false, false_and, not_true_eq_false, not_false_eq_true, Dv.mulOk_sz, ]
      unfold tOf
      rw [x2_of (f := leD) (y := .int 0) this rfl rfl]
      show some (decide (crs3 (x, y) (p, q) (r, s) ≤ 0)) = _
      congr 1
      by_cases h : 0 < crs3 (x, y) (p, q) (r, s)
      · rw [decide_eq_true h, decide_eq_false (by omega)]; rfl
      · rw [decide_eq_false h, decide_eq_true (by omega)]; rfl
    refine ⟨some (.int r), some (.int s), fun h => ?_, fun h => ?_⟩
    · rw [hτ0]
      unfold b1__law_is_round
      exact if_t ct (seq_nx st (if_f (by rw [e3, h]; rfl) rfl))
    · rw [hτ0]
      unfold b1__law_is_round
      exact if_t ct (seq_nx st (if_t (by rw [e3, h]; rfl) rfl))
theorem round_in {i : Nat} (hi : i < P.length) (t3 t4 t5 t6 t7 t8 t9 : Option O) : (rowB P i = true ∧ ∃ t3' t4' t5' t6' t7' t8' t9', b2__law_is_round [some (.lst false (P.map pO)), some (.int P.length), some (.int i), t3, t4, t5, t6, t7, t8, t9] = some (.nx [some (.lst false (P.map pO)), some (.int P.length), some (.int i), t3', t4', t5', t6', t7', t8', t9'])) ∨ (rowB P i = false ∧ b2__law_is_round [some (.lst false (P.map pO)), some (.int P.length), some (.int i), t3, t4, t5, t6, t7, t8, t9] = some (.rt (.bl false))) := by
  obtain ⟨j, hj⟩ : ∃ j, j = (i + 1) % P.length := ⟨_, rfl⟩
  have lj : j < P.length := by rw [hj]; exact Nat.mod_lt _ (by omega)
  obtain ⟨a, ha⟩ : ∃ a, P[i]? = some a := ⟨_, List.getElem?_eq_getElem hi⟩
  obtain ⟨b, hb⟩ : ∃ a, P[j]? = some a := ⟨_, List.getElem?_eq_getElem lj⟩
  have p1 := pO_at ha
  have p2 := pO_ix hi (by rw [← hj]; exact hb)
  have fJ := frzs_pO P
  have s1 : sAsg [0, 2] (x2 ixD (xV 0) (xV 2)) (gT 2 (gsC (gN 3) (gsC (gN 4) (gsN)))) [some (.lst false (P.map pO)), some (.int P.length), some (.int i), t3, t4, t5, t6, t7, t8, t9] = some (.nx [some (.lst false (P.map pO)), some (.int P.length), some (.int i), some (.int a.1), some (.int a.2), t5, t6, t7, t8, t9]) := by
    obtain ⟨J, hJ⟩ : ∃ J, P.map pO = J := ⟨_, rfl⟩
    rw [hJ] at p1 fJ ⊢
    unfold pO at p1
    simp (config := {decide := true}) only [Dv.get, Dv.xV, Dv.xC, Dv.frz, Dv.frzs, Dv.flat, Dv.flats, Dv.clean, Dv.cleans, Dv.frzSlot, Dv.frz1, Dv.frzAt, Dv.put, Dv.addD, Dv.subD, Dv.mulD, Dv.fdivD, Dv.modD, Dv.negD, Dv.x2, Dv.x1, Dv.xsN, Dv.xsC, Dv.xTup, Dv.xLst, Dv.xCall, Dv.asB, Dv.tOf, Dv.tNot, Dv.tAnd, Dv.tOr, Dv.xB, Dv.xIf, Dv.cmpI, Dv.ltD, Dv.leD, Dv.gtD, Dv.geD, Dv.xAnd, Dv.xOr, Dv.xNot, Dv.sN, Dv.sSeq, Dv.sSet, Dv.sRet, Dv.sRetV, Dv.sIf, Dv.sBk, Dv.sCt, Dv.gN, Dv.gsN, Dv.gsC, Dv.gT, Dv.fnD, Dv.ixD, Dv.slD, Dv.pN, Dv.pI, Dv.xSl, Dv.lenD', Dv.intD, Dv.maxD, Dv.minD, Dv.allD, Dv.anyD, Dv.allB, Dv.listD, Dv.xF, Dv.isiD, Dv.eqD, Dv.neD, Dv.isND, Dv.notND, Dv.isN2, Dv.notN2, Dv.sApp, Dv.itL, Dv.itR1, Dv.itR2, Dv.rngL, Dv.zipL, Dv.zipO, Dv.itZ, Dv.enuL, Dv.enuO, Dv.itEn, Dv.wipeD, Dv.keepD, Dv.tY, Dv.sAsg, Dv.sPar, Dv.sPar3, Dv.sAugI, Dv.sDrop, Dv.at_20, Dv.at_21, Dv.at_30, Dv.at_31, Dv.at_32, Dv.at_40, Dv.at_41, Dv.at_42, Dv.at_43, Dv.at_10, Dv.frzs_ints, Dv.cleans_ints, Dv.le_sLine, Dv.sh_non, Dv.sh_bl, Dv.sh_int, Dv.sh_tup, Dv.sh_lst, Dv.eqo_int, Dv.eqo_bl, Dv.eqo_tup, Dv.eqo_lst, Dv.eqos_nil, Dv.eqos_cons, List.all_cons, List.all_nil, Dv.beq_tt, Dv.beq_ff, Dv.beq_tf, Dv.beq_ft, List.getElem?_cons_zero, List.getElem?_cons_succ, List.getElem?_nil, List.set_cons_zero, List.set_cons_succ, List.set_nil, Option.bind_some, Option.bind_none, Option.map_some, Option.map_none, if_true, if_false, ↓reduceIte, decide_true, decide_false, Bool.false_eq_true, Bool.true_and, Bool.and_true, Bool.false_and, Bool.and_false, Bool.not_true, Bool.not_false, Bool.true_or, Bool.or_true, Bool.false_or, Bool.or_false, List.cons_append, List.nil_append, List.length_cons, List.length_nil, List.map_cons, List.map_nil, List.replicate_succ, List.replicate_zero, Nat.reduceAdd, Nat.reduceSub, Nat.reduceLT, Nat.reduceEqDiff, Nat.reduceLeDiff, Int.reduceAdd, Int.reduceSub, Int.reduceMul, Int.reduceNeg, Int.reduceLT, Int.reduceLE, Int.reduceEq, Int.reduceMod, Int.reduceDiv, Int.reduceToNat, Nat.add_zero, Nat.zero_add, List.contains_cons, List.contains_nil, Nat.reduceBEq, beq_self_eq_true, reduceCtorEq, and_true, true_and, and_false, false_and, not_true_eq_false, not_false_eq_true, Dv.mulOk_sz, fJ, p1]
  have s2 : sAsg [0, 2, 1] (x2 ixD (xV 0) (x2 addD (x2 subD (xV 2) (xV 1)) (xC (.int 1)))) (gT 2 (gsC (gN 5) (gsC (gN 6) (gsN)))) [some (.lst false (P.map pO)), some (.int P.length), some (.int i), some (.int a.1), some (.int a.2), t5, t6, t7, t8, t9] = some (.nx [some (.lst false (P.map pO)), some (.int P.length), some (.int i), some (.int a.1), some (.int a.2), some (.int b.1), some (.int b.2), t7, t8, t9]) := by
    obtain ⟨J, hJ⟩ : ∃ J, P.map pO = J := ⟨_, rfl⟩
    rw [hJ] at p2 fJ ⊢
    unfold pO at p2
    simp (config := {decide := true}) only [Dv.get, Dv.xV, Dv.xC, Dv.frz, Dv.frzs, Dv.flat, Dv.flats, Dv.clean, Dv.cleans, Dv.frzSlot, Dv.frz1, Dv.frzAt, Dv.put, Dv.addD, Dv.subD, Dv.mulD, Dv.fdivD, Dv.modD, Dv.negD, Dv.x2, Dv.x1, Dv.xsN, Dv.xsC, Dv.xTup, Dv.xLst, Dv.xCall, Dv.asB, Dv.tOf, Dv.tNot, Dv.tAnd, Dv.tOr, Dv.xB, Dv.xIf, Dv.cmpI, Dv.ltD, Dv.leD, Dv.gtD, Dv.geD, Dv.xAnd, Dv.xOr, Dv.xNot, Dv.sN, Dv.sSeq, Dv.sSet, Dv.sRet, Dv.sRetV, Dv.sIf, Dv.sBk, Dv.sCt, Dv.gN, Dv.gsN, Dv.gsC, Dv.gT, Dv.fnD, Dv.ixD, Dv.slD, Dv.pN, Dv.pI, Dv.xSl, Dv.lenD', Dv.intD, Dv.maxD, Dv.minD, Dv.allD, Dv.anyD, Dv.allB, Dv.listD, Dv.xF, Dv.isiD, Dv.eqD, Dv.neD, Dv.isND, Dv.notND, Dv.isN2, Dv.notN2, Dv.sApp, Dv.itL, Dv.itR1, Dv.itR2, Dv.rngL, Dv.zipL, Dv.zipO, Dv.itZ, Dv.enuL, Dv.enuO, Dv.itEn, Dv.wipeD, Dv.keepD, Dv.tY, Dv.sAsg, Dv.sPar, Dv.sPar3, Dv.sAugI, Dv.sDrop, Dv.at_20, Dv.at_21, Dv.at_30, Dv.at_31, Dv.at_32, Dv.at_40, Dv.at_41, Dv.at_42, Dv.at_43, Dv.at_10, Dv.frzs_ints, Dv.cleans_ints, Dv.le_sLine, Dv.sh_non, Dv.sh_bl, Dv.sh_int, Dv.sh_tup, Dv.sh_lst, Dv.eqo_int, Dv.eqo_bl, Dv.eqo_tup, Dv.eqo_lst, Dv.eqos_nil, Dv.eqos_cons, List.all_cons, List.all_nil, Dv.beq_tt, Dv.beq_ff, Dv.beq_tf, Dv.beq_ft, List.getElem?_cons_zero, List.getElem?_cons_succ, List.getElem?_nil, List.set_cons_zero, List.set_cons_succ, List.set_nil, Option.bind_some, Option.bind_none, Option.map_some, Option.map_none, if_true, if_false, ↓reduceIte, decide_true, decide_false, Bool.false_eq_true, Bool.true_and, Bool.and_true, Bool.false_and, Bool.and_false, Bool.not_true, Bool.not_false, Bool.true_or, Bool.or_true, Bool.false_or, Bool.or_false, List.cons_append, List.nil_append, List.length_cons, List.length_nil, List.map_cons, List.map_nil, List.replicate_succ, List.replicate_zero, Nat.reduceAdd, Nat.reduceSub, Nat.reduceLT, Nat.reduceEqDiff, Nat.reduceLeDiff, Int.reduceAdd, Int.reduceSub, Int.reduceMul, Int.reduceNeg, Int.reduceLT, Int.reduceLE, Int.reduceEq, Int.reduceMod, Int.reduceDiv, Int.reduceToNat, Nat.add_zero, Nat.zero_add, List.contains_cons, List.contains_nil, Nat.reduceBEq, beq_self_eq_true, reduceCtorEq, and_true, true_and, and_false, false_and, not_true_eq_false, not_false_eq_true, Dv.mulOk_sz, fJ, p2]
  have rk : itR1 (xV 1) [some (.lst false (P.map pO)), some (.int P.length), some (.int i), some (.int a.1), some (.int a.2), some (.int b.1), some (.int b.2), t7, t8, t9] = some (rngL 0 P.length) := itR1_n rfl (by omega)
  have lo := forD_all (g := gN 7) (b := b1__law_is_round) (o := .bl false) (fun τ => ∃ t7 t8 t9, τ = [some (.lst false (P.map pO)), some (.int P.length), some (.int i), some (.int a.1), some (.int a.2), some (.int b.1), some (.int b.2), t7, t8, t9]) (okB P i) P.length 0 [some (.lst false (P.map pO)), some (.int P.length), some (.int i), some (.int a.1), some (.int a.2), some (.int b.1), some (.int b.2), t7, t8, t9] (fun k τ _ hk q => by
    obtain ⟨t7, t8, t9, rfl⟩ := q
    obtain ⟨t8', t9', h1, h2⟩ := round_b1 hP l1 hi hj (k := k) (by omega) ha hb t8 t9
    exact ⟨_, rfl, h2, fun h => ⟨_, h1 h, _, _, _, rfl⟩⟩) ⟨t7, t8, t9, rfl⟩
  rw [all_range] at lo
  have run : ∀ r, forD (gN 7) b1__law_is_round (rngL ((0 : Nat) : Int) P.length) [some (.lst false (P.map pO)), some (.int P.length), some (.int i), some (.int a.1), some (.int a.2), some (.int b.1), some (.int b.2), t7, t8, t9] = r → b2__law_is_round [some (.lst false (P.map pO)), some (.int P.length), some (.int i), t3, t4, t5, t6, t7, t8, t9] = r := fun r hr => by
    unfold b2__law_is_round
    refine seq_nx s1 (seq_nx s2 ?_)
    unfold sFor
    rw [rk, Option.bind_some, frzs_rng]
    exact hr
  rcases lo with ⟨h, τ', e, t7', t8', t9', rfl⟩ | ⟨h, e⟩
  · exact .inl ⟨h, _, _, _, _, _, _, _, run _ e⟩
  · exact .inr ⟨all_ff h, run _ e⟩
theorem is_round_eq (o : Bool) : f__law_is_round [.lst o (P.map pO)] = some (.bl (rdB P)) := by
  have fJ := frzs_pO P
  have lJ : ((P.map pO).length : Int) = (P.length : Int) := by rw [List.length_map]
  unfold f__law_is_round s__law_is_round
  refine fnD_of (τ := [some (.lst false (P.map pO)), none, none, none, none, none, none, none, none, none]) rfl (by show [some (O.lst false (frzs (P.map pO))), none, none, none, none, none, none, none, none, none] = _; rw [fJ]) ?_
  have s1 : sSet [0] 1 (xF lenD' (xsC (xV 0) (xsN))) [some (.lst false (P.map pO)), none, none, none, none, none, none, none, none, none] = some (.nx [some (.lst false (P.map pO)), some (.int P.length), none, none, none, none, none, none, none, none]) := by
    obtain ⟨J, hJ⟩ : ∃ J, P.map pO = J := ⟨_, rfl⟩
    rw [hJ] at fJ lJ ⊢
    simp (config := {decide := true}) only [Dv.get, Dv.xV, Dv.xC, Dv.frz, Dv.frzs, Dv.flat, Dv.flats, Dv.clean, Dv.cleans, Dv.frzSlot, Dv.frz1, Dv.frzAt, Dv.put, Dv.addD, Dv.subD, Dv.mulD, Dv.fdivD, Dv.modD, Dv.negD, Dv.x2, Dv.x1, Dv.xsN, Dv.xsC, Dv.xTup, Dv.xLst, Dv.xCall, Dv.asB, Dv.tOf, Dv.tNot, Dv.tAnd, Dv.tOr, Dv.xB, Dv.xIf, Dv.cmpI, Dv.ltD, Dv.leD, Dv.gtD, Dv.geD, Dv.xAnd, Dv.xOr, Dv.xNot, Dv.sN, Dv.sSeq, Dv.sSet, Dv.sRet, Dv.sRetV, Dv.sIf, Dv.sBk, Dv.sCt, Dv.gN, Dv.gsN, Dv.gsC, Dv.gT, Dv.fnD, Dv.ixD, Dv.slD, Dv.pN, Dv.pI, Dv.xSl, Dv.lenD', Dv.intD, Dv.maxD, Dv.minD, Dv.allD, Dv.anyD, Dv.allB, Dv.listD, Dv.xF, Dv.isiD, Dv.eqD, Dv.neD, Dv.isND, Dv.notND, Dv.isN2, Dv.notN2, Dv.sApp, Dv.itL, Dv.itR1, Dv.itR2, Dv.rngL, Dv.zipL, Dv.zipO, Dv.itZ, Dv.enuL, Dv.enuO, Dv.itEn, Dv.wipeD, Dv.keepD, Dv.tY, Dv.sAsg, Dv.sPar, Dv.sPar3, Dv.sAugI, Dv.sDrop, Dv.at_20, Dv.at_21, Dv.at_30, Dv.at_31, Dv.at_32, Dv.at_40, Dv.at_41, Dv.at_42, Dv.at_43, Dv.at_10, Dv.frzs_ints, Dv.cleans_ints, Dv.le_sLine, Dv.sh_non, Dv.sh_bl, Dv.sh_int, Dv.sh_tup, Dv.sh_lst, Dv.eqo_int, Dv.eqo_bl, Dv.eqo_tup, Dv.eqo_lst, Dv.eqos_nil, Dv.eqos_cons, List.all_cons, List.all_nil, Dv.beq_tt, Dv.beq_ff, Dv.beq_tf, Dv.beq_ft, List.getElem?_cons_zero, List.getElem?_cons_succ, List.getElem?_nil, List.set_cons_zero, List.set_cons_succ, List.set_nil, Option.bind_some, Option.bind_none, Option.map_some, Option.map_none, if_true, if_false, ↓reduceIte, decide_true, decide_false, Bool.false_eq_true, Bool.true_and, Bool.and_true, Bool.false_and, Bool.and_false, Bool.not_true, Bool.not_false, Bool.true_or, Bool.or_true, Bool.false_or, Bool.or_false, List.cons_append, List.nil_append, List.length_cons, List.length_nil, List.map_cons, List.map_nil, List.replicate_succ, List.replicate_zero, Nat.reduceAdd, Nat.reduceSub, Nat.reduceLT, Nat.reduceEqDiff, Nat.reduceLeDiff, Int.reduceAdd, Int.reduceSub, Int.reduceMul, Int.reduceNeg, Int.reduceLT, Int.reduceLE, Int.reduceEq, Int.reduceMod, Int.reduceDiv, Int.reduceToNat, Nat.add_zero, Nat.zero_add, List.contains_cons, List.contains_nil, Nat.reduceBEq, beq_self_eq_true, reduceCtorEq, and_true, true_and, and_false, false_and, not_true_eq_false, not_false_eq_true, Dv.mulOk_sz, fJ, lJ]
  refine seq_nx s1 ?_
  have cond : Dv.tNot (tOf (xCh (fun i j => decide (i ≤ j)) (fun i j => decide (i ≤ j)) (xC (.int 3)) (xV 1) (xC (.int 8)))) [some (.lst false (P.map pO)), some (.int P.length), none, none, none, none, none, none, none, none] = some (!(decide (3 ≤ P.length) && decide (P.length ≤ 8))) := by
    have : xCh (fun i j => decide (i ≤ j)) (fun i j => decide (i ≤ j)) (xC (.int 3)) (xV 1) (xC (.int 8)) [some (.lst false (P.map pO)), some (.int P.length), none, none, none, none, none, none, none, none] = some (.bl (decide (3 ≤ P.length) && decide (P.length ≤ 8))) := by
      show (if decide ((3 : Int) ≤ P.length) = true then (some (O.int 8)).bind (fun z => cmpI (fun i j => decide (i ≤ j)) (.int (P.length : Int)) z) else some (O.bl false)) = _
      rw [show decide ((3 : Int) ≤ P.length) = decide (3 ≤ P.length) from decide_eq_decide.mpr (by omega)]
      cases decide (3 ≤ P.length) with
      | false => rfl
      | true =>
        show some (O.bl (decide ((P.length : Int) ≤ 8))) = _
        rw [show decide ((P.length : Int) ≤ 8) = decide (P.length ≤ 8) from decide_eq_decide.mpr (by omega)]
        rfl
    unfold Dv.tNot tOf
    rw [this]; rfl
  by_cases hs : 3 ≤ P.length ∧ P.length ≤ 8
  · have e : rdB P = (List.range P.length).all (rowB P) := by
      unfold rdB
      rw [decide_eq_true hs.1, decide_eq_true hs.2, Bool.true_and, Bool.true_and]
    rw [e]
    refine seq_nx (if_f (by rw [cond, decide_eq_true hs.1, decide_eq_true hs.2]; rfl) rfl) ?_
    have rk : itR1 (xV 1) [some (.lst false (P.map pO)), some (.int P.length), none, none, none, none, none, none, none, none] = some (rngL 0 P.length) := itR1_n rfl (by omega)
    have lo := forD_all (g := gN 2) (b := b2__law_is_round) (o := .bl false) (fun τ => ∃ t2 t3 t4 t5 t6 t7 t8 t9, τ = [some (.lst false (P.map pO)), some (.int P.length), t2, t3, t4, t5, t6, t7, t8, t9]) (rowB P) P.length 0 [some (.lst false (P.map pO)), some (.int P.length), none, none, none, none, none, none, none, none] (fun k τ _ hk q => by
      obtain ⟨t2, t3, t4, t5, t6, t7, t8, t9, rfl⟩ := q
      rcases round_in hP l1 (i := k) (by omega) t3 t4 t5 t6 t7 t8 t9 with ⟨h, t3', t4', t5', t6', t7', t8', t9', e⟩ | ⟨h, e⟩
      · exact ⟨_, rfl, fun z => by (rw [h] at z; cases z), fun _ => ⟨_, e, _, _, _, _, _, _, _, _, rfl⟩⟩
      · exact ⟨_, rfl, fun _ => e, fun z => by (rw [h] at z; cases z)⟩) ⟨none, none, none, none, none, none, none, none, rfl⟩
    rw [all_range] at lo
    have run : sFor [] (itR1 (xV 1)) (gN 2) (b2__law_is_round) [some (.lst false (P.map pO)), some (.int P.length), none, none, none, none, none, none, none, none] = forD (gN 2) b2__law_is_round (rngL ((0 : Nat) : Int) P.length) [some (.lst false (P.map pO)), some (.int P.length), none, none, none, none, none, none, none, none] := by
      unfold sFor
      rw [rk, Option.bind_some, frzs_rng]
      rfl
    rcases lo with ⟨h, τ', e, _⟩ | ⟨h, e⟩
    · rw [h]
      exact seq_nx (run.trans e) rfl
    · rw [all_ff h]
      exact seq_rt (run.trans e)
  · have : (decide (3 ≤ P.length) && decide (P.length ≤ 8)) = false := by
      cases h : (decide (3 ≤ P.length) && decide (P.length ≤ 8)) with
      | false => rfl
      | true =>
        rw [Bool.and_eq_true, decide_eq_true_eq, decide_eq_true_eq] at h
        exact absurd h hs
    have r : rdB P = false := by
      unfold rdB
      rw [← Bool.and_assoc, this]; rfl
    rw [r]
    exact seq_rt (if_t (by rw [cond, this]; rfl) rfl)
end
theorem law_true : ∀ ns : List Int, ns.length ≤ 63 → f_law [.scr ns] = some (.bl true) := by
  intro ns _
  obtain ⟨L, hL, hl, hD⟩ := draws_eq ns 40 (by decide) (by decide)
  have hC : Cells 40 L := ⟨by omega, hD.2⟩
  obtain ⟨a9, i9, _, l9, u9⟩ := hC.at 9 (by decide) (by decide)
  obtain ⟨a10, i10, _, l10, u10⟩ := hC.at 10 (by decide) (by decide)
  obtain ⟨a11, i11, _, l11, u11⟩ := hC.at 11 (by decide) (by decide)
  have d3 : divOk 3 = true := by decide
  have d9 : divOk 9 = true := by decide
  have hw : ∃ w : Int, at? [O.int 3, .int 20, .int 90] (a9 % 3) = some (.int w) ∧ 1 ≤ w ∧ w ≤ 100 := by
    have z : a9 % 3 = 0 ∨ a9 % 3 = 1 ∨ a9 % 3 = 2 := by omega
    rcases z with z | z | z <;> rw [z]
    · exact ⟨3, rfl, by decide, by decide⟩
    · exact ⟨20, rfl, by decide, by decide⟩
    · exact ⟨90, rfl, by decide, by decide⟩
  obtain ⟨w, hw, w0, w1⟩ := hw
  obtain ⟨B, hB, _, lB0, lB1, bB⟩ := bank_ok false L (hC.mono (by decide)) w w0 w1
  have cL : cleans (L.map O.int) = true := cleans_ints L
  have fL : frzs (L.map O.int) = L.map O.int := frzs_ints L
  have eD : ∀ k : Nat, cut (L.map O.int) (some (k : Int)) none = (L.drop k).map O.int := fun k => by rw [cut_map]; exact congrArg _ cut_from
  obtain ⟨Ls, hLs⟩ : ∃ Ls, L.map O.int = Ls := ⟨_, rfl⟩
  rw [hLs] at hL cL fL i9 i10 i11 hB
  have cP : ∀ P : List S2, cleans (P.map pO) = true := fun P => cleans_flat fun x hx => by
    obtain ⟨d, _, rfl⟩ := List.mem_map.mp hx; rfl
  unfold f_law s_law
  refine fnD_of rfl rfl ?_
  refine Dv.seq_nx (by simp (config := {decide := true}) only [Dv.get, Dv.xV, Dv.xC, Dv.frz, Dv.frzs, Dv.flat, Dv.flats, Dv.clean, Dv.cleans, Dv.frzSlot, Dv.frz1, Dv.frzAt, Dv.put, Dv.addD, Dv.subD, Dv.mulD, Dv.fdivD, Dv.modD, Dv.negD, Dv.x2, Dv.x1, Dv.xsN, Dv.xsC, Dv.xTup, Dv.xLst, Dv.xCall, Dv.asB, Dv.tOf, Dv.tNot, Dv.tAnd, Dv.tOr, Dv.xB, Dv.xIf, Dv.cmpI, Dv.ltD, Dv.leD, Dv.gtD, Dv.geD, Dv.xAnd, Dv.xOr, Dv.xNot, Dv.sN, Dv.sSeq, Dv.sSet, Dv.sRet, Dv.sRetV, Dv.sIf, Dv.sBk, Dv.sCt, Dv.gN, Dv.gsN, Dv.gsC, Dv.gT, Dv.fnD, Dv.ixD, Dv.slD, Dv.pN, Dv.pI, Dv.xSl, Dv.lenD', Dv.intD, Dv.maxD, Dv.minD, Dv.allD, Dv.anyD, Dv.allB, Dv.listD, Dv.xF, Dv.isiD, Dv.eqD, Dv.neD, Dv.isND, Dv.notND, Dv.isN2, Dv.notN2, Dv.sApp, Dv.itL, Dv.itR1, Dv.itR2, Dv.rngL, Dv.zipL, Dv.zipO, Dv.itZ, Dv.enuL, Dv.enuO, Dv.itEn, Dv.wipeD, Dv.keepD, Dv.tY, Dv.sAsg, Dv.sPar, Dv.sPar3, Dv.sAugI, Dv.sDrop, Dv.at_20, Dv.at_21, Dv.at_30, Dv.at_31, Dv.at_32, Dv.at_40, Dv.at_41, Dv.at_42, Dv.at_43, Dv.at_10, Dv.frzs_ints, Dv.cleans_ints, Dv.le_sLine, Dv.sh_non, Dv.sh_bl, Dv.sh_int, Dv.sh_tup, Dv.sh_lst, Dv.eqo_int, Dv.eqo_bl, Dv.eqo_tup, Dv.eqo_lst, Dv.eqos_nil, Dv.eqos_cons, List.all_cons, List.all_nil, Dv.beq_tt, Dv.beq_ff, Dv.beq_tf, Dv.beq_ft, List.getElem?_cons_zero, List.getElem?_cons_succ, List.getElem?_nil, List.set_cons_zero, List.set_cons_succ, List.set_nil, Option.bind_some, Option.bind_none, Option.map_some, Option.map_none, if_true, if_false, ↓reduceIte, decide_true, decide_false, Bool.false_eq_true, Bool.true_and, Bool.and_true, Bool.false_and, Bool.and_false, Bool.not_true, Bool.not_false, Bool.true_or, Bool.or_true, Bool.false_or, Bool.or_false, List.cons_append, List.nil_append, List.length_cons, List.length_nil, List.map_cons, List.map_nil, List.replicate_succ, List.replicate_zero, Nat.reduceAdd, Nat.reduceSub, Nat.reduceLT, Nat.reduceEqDiff, Nat.reduceLeDiff, Int.reduceAdd, Int.reduceSub, Int.reduceMul, Int.reduceNeg, Int.reduceLT, Int.reduceLE, Int.reduceEq, Int.reduceMod, Int.reduceDiv, Int.reduceToNat, Nat.add_zero, Nat.zero_add, List.contains_cons, List.contains_nil, Nat.reduceBEq, beq_self_eq_true, reduceCtorEq, and_true, true_and, and_false, false_and, not_true_eq_false, not_false_eq_true, Dv.mulOk_sz, hL, cL] <;> rfl) ?_
  refine seq_nx (τ' := [some (.scr ns), some (.lst true Ls), some (.lst true (B.map pO)), none, none, none]) (set_nx (o := .lst true (B.map pO)) (by
    obtain ⟨J, hJ⟩ : ∃ J, B.map pO = J := ⟨_, rfl⟩
    rw [hJ] at hB ⊢
    simp (config := {decide := true}) only [Dv.get, Dv.xV, Dv.xC, Dv.frz, Dv.frzs, Dv.flat, Dv.flats, Dv.clean, Dv.cleans, Dv.frzSlot, Dv.frz1, Dv.frzAt, Dv.put, Dv.addD, Dv.subD, Dv.mulD, Dv.fdivD, Dv.modD, Dv.negD, Dv.x2, Dv.x1, Dv.xsN, Dv.xsC, Dv.xTup, Dv.xLst, Dv.xCall, Dv.asB, Dv.tOf, Dv.tNot, Dv.tAnd, Dv.tOr, Dv.xB, Dv.xIf, Dv.cmpI, Dv.ltD, Dv.leD, Dv.gtD, Dv.geD, Dv.xAnd, Dv.xOr, Dv.xNot, Dv.sN, Dv.sSeq, Dv.sSet, Dv.sRet, Dv.sRetV, Dv.sIf, Dv.sBk, Dv.sCt, Dv.gN, Dv.gsN, Dv.gsC, Dv.gT, Dv.fnD, Dv.ixD, Dv.slD, Dv.pN, Dv.pI, Dv.xSl, Dv.lenD', Dv.intD, Dv.maxD, Dv.minD, Dv.allD, Dv.anyD, Dv.allB, Dv.listD, Dv.xF, Dv.isiD, Dv.eqD, Dv.neD, Dv.isND, Dv.notND, Dv.isN2, Dv.notN2, Dv.sApp, Dv.itL, Dv.itR1, Dv.itR2, Dv.rngL, Dv.zipL, Dv.zipO, Dv.itZ, Dv.enuL, Dv.enuO, Dv.itEn, Dv.wipeD, Dv.keepD, Dv.tY, Dv.sAsg, Dv.sPar, Dv.sPar3, Dv.sAugI, Dv.sDrop, Dv.at_20, Dv.at_21, Dv.at_30, Dv.at_31, Dv.at_32, Dv.at_40, Dv.at_41, Dv.at_42, Dv.at_43, Dv.at_10, Dv.frzs_ints, Dv.cleans_ints, Dv.le_sLine, Dv.sh_non, Dv.sh_bl, Dv.sh_int, Dv.sh_tup, Dv.sh_lst, Dv.eqo_int, Dv.eqo_bl, Dv.eqo_tup, Dv.eqo_lst, Dv.eqos_nil, Dv.eqos_cons, List.all_cons, List.all_nil, Dv.beq_tt, Dv.beq_ff, Dv.beq_tf, Dv.beq_ft, List.getElem?_cons_zero, List.getElem?_cons_succ, List.getElem?_nil, List.set_cons_zero, List.set_cons_succ, List.set_nil, Option.bind_some, Option.bind_none, Option.map_some, Option.map_none, if_true, if_false, ↓reduceIte, decide_true, decide_false, Bool.false_eq_true, Bool.true_and, Bool.and_true, Bool.false_and, Bool.and_false, Bool.not_true, Bool.not_false, Bool.true_or, Bool.or_true, Bool.false_or, Bool.or_false, List.cons_append, List.nil_append, List.length_cons, List.length_nil, List.map_cons, List.map_nil, List.replicate_succ, List.replicate_zero, Nat.reduceAdd, Nat.reduceSub, Nat.reduceLT, Nat.reduceEqDiff, Nat.reduceLeDiff, Int.reduceAdd, Int.reduceSub, Int.reduceMul, Int.reduceNeg, Int.reduceLT, Int.reduceLE, Int.reduceEq, Int.reduceMod, Int.reduceDiv, Int.reduceToNat, Nat.add_zero, Nat.zero_add, List.contains_cons, List.contains_nil, Nat.reduceBEq, beq_self_eq_true, reduceCtorEq, and_true, true_and, and_false, false_and, not_true_eq_false, not_false_eq_true, Dv.mulOk_sz, fL, i9, d3, hw, hB]) (by
    have := cP B
    obtain ⟨J, hJ⟩ : ∃ J, B.map pO = J := ⟨_, rfl⟩
    rw [hJ] at this ⊢
    simp (config := {decide := true}) only [Dv.get, Dv.xV, Dv.xC, Dv.frz, Dv.frzs, Dv.flat, Dv.flats, Dv.clean, Dv.cleans, Dv.frzSlot, Dv.frz1, Dv.frzAt, Dv.put, Dv.addD, Dv.subD, Dv.mulD, Dv.fdivD, Dv.modD, Dv.negD, Dv.x2, Dv.x1, Dv.xsN, Dv.xsC, Dv.xTup, Dv.xLst, Dv.xCall, Dv.asB, Dv.tOf, Dv.tNot, Dv.tAnd, Dv.tOr, Dv.xB, Dv.xIf, Dv.cmpI, Dv.ltD, Dv.leD, Dv.gtD, Dv.geD, Dv.xAnd, Dv.xOr, Dv.xNot, Dv.sN, Dv.sSeq, Dv.sSet, Dv.sRet, Dv.sRetV, Dv.sIf, Dv.sBk, Dv.sCt, Dv.gN, Dv.gsN, Dv.gsC, Dv.gT, Dv.fnD, Dv.ixD, Dv.slD, Dv.pN, Dv.pI, Dv.xSl, Dv.lenD', Dv.intD, Dv.maxD, Dv.minD, Dv.allD, Dv.anyD, Dv.allB, Dv.listD, Dv.xF, Dv.isiD, Dv.eqD, Dv.neD, Dv.isND, Dv.notND, Dv.isN2, Dv.notN2, Dv.sApp, Dv.itL, Dv.itR1, Dv.itR2, Dv.rngL, Dv.zipL, Dv.zipO, Dv.itZ, Dv.enuL, Dv.enuO, Dv.itEn, Dv.wipeD, Dv.keepD, Dv.tY, Dv.sAsg, Dv.sPar, Dv.sPar3, Dv.sAugI, Dv.sDrop, Dv.at_20, Dv.at_21, Dv.at_30, Dv.at_31, Dv.at_32, Dv.at_40, Dv.at_41, Dv.at_42, Dv.at_43, Dv.at_10, Dv.frzs_ints, Dv.cleans_ints, Dv.le_sLine, Dv.sh_non, Dv.sh_bl, Dv.sh_int, Dv.sh_tup, Dv.sh_lst, Dv.eqo_int, Dv.eqo_bl, Dv.eqo_tup, Dv.eqo_lst, Dv.eqos_nil, Dv.eqos_cons, List.all_cons, List.all_nil, Dv.beq_tt, Dv.beq_ff, Dv.beq_tf, Dv.beq_ft, List.getElem?_cons_zero, List.getElem?_cons_succ, List.getElem?_nil, List.set_cons_zero, List.set_cons_succ, List.set_nil, Option.bind_some, Option.bind_none, Option.map_some, Option.map_none, if_true, if_false, ↓reduceIte, decide_true, decide_false, Bool.false_eq_true, Bool.true_and, Bool.and_true, Bool.false_and, Bool.and_false, Bool.not_true, Bool.not_false, Bool.true_or, Bool.or_true, Bool.false_or, Bool.or_false, List.cons_append, List.nil_append, List.length_cons, List.length_nil, List.map_cons, List.map_nil, List.replicate_succ, List.replicate_zero, Nat.reduceAdd, Nat.reduceSub, Nat.reduceLT, Nat.reduceEqDiff, Nat.reduceLeDiff, Int.reduceAdd, Int.reduceSub, Int.reduceMul, Int.reduceNeg, Int.reduceLT, Int.reduceLE, Int.reduceEq, Int.reduceMod, Int.reduceDiv, Int.reduceToNat, Nat.add_zero, Nat.zero_add, List.contains_cons, List.contains_nil, Nat.reduceBEq, beq_self_eq_true, reduceCtorEq, and_true, true_and, and_false, false_and, not_true_eq_false, not_false_eq_true, Dv.mulOk_sz, this])) ?_
  obtain ⟨m, hm⟩ : ∃ m : Nat, a10 % 3 = m := ⟨(a10 % 3).toNat, by omega⟩
  have m2 : m ≤ 2 := by omega
  have rk : itR1 (x2 modD (x2 ixD (xV 1) (xC (.int 10))) (xC (.int 3))) [some (.scr ns), some (.lst true Ls), some (.lst true (B.map pO)), none, none, none] = some (rngL 0 m) := itR1_n (by
    obtain ⟨J, hJ⟩ : ∃ J, B.map pO = J := ⟨_, rfl⟩
    rw [hJ]
    simp (config := {decide := true}) only [Dv.get, Dv.xV, Dv.xC, Dv.frz, Dv.frzs, Dv.flat, Dv.flats, Dv.clean, Dv.cleans, Dv.frzSlot, Dv.frz1, Dv.frzAt, Dv.put, Dv.addD, Dv.subD, Dv.mulD, Dv.fdivD, Dv.modD, Dv.negD, Dv.x2, Dv.x1, Dv.xsN, Dv.xsC, Dv.xTup, Dv.xLst, Dv.xCall, Dv.asB, Dv.tOf, Dv.tNot, Dv.tAnd, Dv.tOr, Dv.xB, Dv.xIf, Dv.cmpI, Dv.ltD, Dv.leD, Dv.gtD, Dv.geD, Dv.xAnd, Dv.xOr, Dv.xNot, Dv.sN, Dv.sSeq, Dv.sSet, Dv.sRet, Dv.sRetV, Dv.sIf, Dv.sBk, Dv.sCt, Dv.gN, Dv.gsN, Dv.gsC, Dv.gT, Dv.fnD, Dv.ixD, Dv.slD, Dv.pN, Dv.pI, Dv.xSl, Dv.lenD', Dv.intD, Dv.maxD, Dv.minD, Dv.allD, Dv.anyD, Dv.allB, Dv.listD, Dv.xF, Dv.isiD, Dv.eqD, Dv.neD, Dv.isND, Dv.notND, Dv.isN2, Dv.notN2, Dv.sApp, Dv.itL, Dv.itR1, Dv.itR2, Dv.rngL, Dv.zipL, Dv.zipO, Dv.itZ, Dv.enuL, Dv.enuO, Dv.itEn, Dv.wipeD, Dv.keepD, Dv.tY, Dv.sAsg, Dv.sPar, Dv.sPar3, Dv.sAugI, Dv.sDrop, Dv.at_20, Dv.at_21, Dv.at_30, Dv.at_31, Dv.at_32, Dv.at_40, Dv.at_41, Dv.at_42, Dv.at_43, Dv.at_10, Dv.frzs_ints, Dv.cleans_ints, Dv.le_sLine, Dv.sh_non, Dv.sh_bl, Dv.sh_int, Dv.sh_tup, Dv.sh_lst, Dv.eqo_int, Dv.eqo_bl, Dv.eqo_tup, Dv.eqo_lst, Dv.eqos_nil, Dv.eqos_cons, List.all_cons, List.all_nil, Dv.beq_tt, Dv.beq_ff, Dv.beq_tf, Dv.beq_ft, List.getElem?_cons_zero, List.getElem?_cons_succ, List.getElem?_nil, List.set_cons_zero, List.set_cons_succ, List.set_nil, Option.bind_some, Option.bind_none, Option.map_some, Option.map_none, if_true, if_false, ↓reduceIte, decide_true, decide_false, Bool.false_eq_true, Bool.true_and, Bool.and_true, Bool.false_and, Bool.and_false, Bool.not_true, Bool.not_false, Bool.true_or, Bool.or_true, Bool.false_or, Bool.or_false, List.cons_append, List.nil_append, List.length_cons, List.length_nil, List.map_cons, List.map_nil, List.replicate_succ, List.replicate_zero, Nat.reduceAdd, Nat.reduceSub, Nat.reduceLT, Nat.reduceEqDiff, Nat.reduceLeDiff, Int.reduceAdd, Int.reduceSub, Int.reduceMul, Int.reduceNeg, Int.reduceLT, Int.reduceLE, Int.reduceEq, Int.reduceMod, Int.reduceDiv, Int.reduceToNat, Nat.add_zero, Nat.zero_add, List.contains_cons, List.contains_nil, Nat.reduceBEq, beq_self_eq_true, reduceCtorEq, and_true, true_and, and_false, false_and, not_true_eq_false, not_false_eq_true, Dv.mulOk_sz, fL, i10, hm]) (by omega)
  have lp : ∃ (P : List S2) (t3 : Option O), sFor [] (itR1 (x2 modD (x2 ixD (xV 1) (xC (.int 10))) (xC (.int 3)))) (gN 3) (b1_law) [some (.scr ns), some (.lst true Ls), some (.lst true (B.map pO)), none, none, none] = some (.nx [some (.scr ns), some (.lst true Ls), some (.lst true (P.map pO)), t3, none, none]) ∧ P.length ≤ 12 ∧ Bdd 100000 P := by
    obtain ⟨τ', h1, P, t3, b, rfl, q2, q3, q4⟩ := forD_rng (g := gN 3) (b := b1_law) (fun n τ => ∃ (P : List S2) (t3 : Option O) (b : Int), τ = [some (.scr ns), some (.lst true Ls), some (.lst true (P.map pO)), t3, none, none] ∧ P.length ≤ 12 ∧ Bdd b P ∧ 0 ≤ b ∧ (n = 0 → b ≤ 3000) ∧ (n = 1 → b ≤ 9400) ∧ b ≤ 28600) (N := m) (τ := [some (.scr ns), some (.lst true Ls), some (.lst true (B.map pO)), none, none, none]) (fun n τ hn q => by
      obtain ⟨P, t3, b, rfl, q2, q3, q4, q5, q6, q7⟩ := q
      have c1 : tOf (x2 gtD (xF lenD' (xsC (xV 2) (xsN))) (xC (.int 0))) [some (.scr ns), some (.lst true Ls), some (.lst true (P.map pO)), some (.int n), none, none] = some (decide (0 < P.length)) := by
        have fJ := frzs_pO P
        have lJ : ((P.map pO).length : Int) = (P.length : Int) := by rw [List.length_map]
        have e : xF lenD' (xsC (xV 2) (xsN)) [some (.scr ns), some (.lst true Ls), some (.lst true (P.map pO)), some (.int n), none, none] = some (.int P.length) := by
          obtain ⟨J, hJ⟩ : ∃ J, P.map pO = J := ⟨_, rfl⟩
          rw [hJ] at fJ lJ ⊢
          simp (config := {decide := true}) only [Dv.get, Dv.xV, Dv.xC, Dv.frz, Dv.frzs, Dv.flat, Dv.flats, Dv.clean, Dv.cleans, Dv.frzSlot, Dv.frz1, Dv.frzAt, Dv.put, Dv.addD, Dv.subD, Dv.mulD, Dv.fdivD, Dv.modD, Dv.negD, Dv.x2, Dv.x1, Dv.xsN, Dv.xsC, Dv.xTup, Dv.xLst, Dv.xCall, Dv.asB, Dv.tOf, Dv.tNot, Dv.tAnd, Dv.tOr, Dv.xB, Dv.xIf, Dv.cmpI, Dv.ltD, Dv.leD, Dv.gtD, Dv.geD, Dv.xAnd, Dv.xOr, Dv.xNot, Dv.sN, Dv.sSeq, Dv.sSet, Dv.sRet, Dv.sRetV, Dv.sIf, Dv.sBk, Dv.sCt, Dv.gN, Dv.gsN, Dv.gsC, Dv.gT, Dv.fnD, Dv.ixD, Dv.slD, Dv.pN, Dv.pI, Dv.xSl, Dv.lenD', Dv.intD, Dv.maxD, Dv.minD, Dv.allD, Dv.anyD, Dv.allB, Dv.listD, Dv.xF, Dv.isiD, Dv.eqD, Dv.neD, Dv.isND, Dv.notND, Dv.isN2, Dv.notN2, Dv.sApp, Dv.itL, Dv.itR1, Dv.itR2, Dv.rngL, Dv.zipL, Dv.zipO, Dv.itZ, Dv.enuL, Dv.enuO, Dv.itEn, Dv.wipeD, Dv.keepD, Dv.tY, Dv.sAsg, Dv.sPar, Dv.sPar3, Dv.sAugI, Dv.sDrop, Dv.at_20, Dv.at_21, Dv.at_30, Dv.at_31, Dv.at_32, Dv.at_40, Dv.at_41, Dv.at_42, Dv.at_43, Dv.at_10, Dv.frzs_ints, Dv.cleans_ints, Dv.le_sLine, Dv.sh_non, Dv.sh_bl, Dv.sh_int, Dv.sh_tup, Dv.sh_lst, Dv.eqo_int, Dv.eqo_bl, Dv.eqo_tup, Dv.eqo_lst, Dv.eqos_nil, Dv.eqos_cons, List.all_cons, List.all_nil, Dv.beq_tt, Dv.beq_ff, Dv.beq_tf, Dv.beq_ft, List.getElem?_cons_zero, List.getElem?_cons_succ, List.getElem?_nil, List.set_cons_zero, List.set_cons_succ, List.set_nil, Option.bind_some, Option.bind_none, Option.map_some, Option.map_none, if_true, if_false, ↓reduceIte, decide_true, decide_false, Bool.false_eq_true, Bool.true_and, Bool.and_true, Bool.false_and, Bool.and_false, Bool.not_true, Bool.not_false, Bool.true_or, Bool.or_true, Bool.false_or, Bool.or_false, List.cons_append, List.nil_append, List.length_cons, List.length_nil, List.map_cons, List.map_nil, List.replicate_succ, List.replicate_zero, Nat.reduceAdd, Nat.reduceSub, Nat.reduceLT, Nat.reduceEqDiff, Nat.reduceLeDiff, Int.reduceAdd, Int.reduceSub, Int.reduceMul, Int.reduceNeg, Int.reduceLT, Int.reduceLE, Int.reduceEq, Int.reduceMod, Int.reduceDiv, Int.reduceToNat, Nat.add_zero, Nat.zero_add, List.contains_cons, List.contains_nil, Nat.reduceBEq, beq_self_eq_true, reduceCtorEq, and_true, true_and, and_false, false_and, not_true_eq_false, not_false_eq_true, Dv.mulOk_sz, fJ, lJ]
        unfold tOf
        rw [x2_of (f := gtD) (y := .int 0) e rfl rfl]
        show some (decide ((0 : Int) < P.length)) = _
        rw [show decide ((0 : Int) < P.length) = decide (0 < P.length) from decide_eq_decide.mpr (by omega)]
      by_cases z : 0 < P.length
      · obtain ⟨w, Q, h1, h2⟩ := bent_eq true (L.drop (11 + 4 * n)) ((hC.mono (m := 4 + (11 + 4 * n)) (by omega)).drop _) P z q2 q3 q4 (by omega)
        have e11 := eD (11 + 4 * n)
        rw [hLs] at e11
        rw [← e11] at h1
        have k1 : frzs (cut Ls (some ((11 + 4 * n : Nat) : Int)) none) = cut Ls (some ((11 + 4 * n : Nat) : Int)) none := by rw [e11]; exact frzs_ints _
        have ev : xCall f__law_bent (xsC (xSl (xV 1) (pI (x2 addD (xC (.int 11)) (x2 mulD (xC (.int 4)) (xV 3)))) pN) (xsC (xV 2) (xsN))) [some (.scr ns), some (.lst true Ls), some (.lst true (P.map pO)), some (.int n), none, none] = some (.lst w (Q.map pO)) := by
          refine xCall_g (xs := [.lst true (cut Ls (some ((11 + 4 * n : Nat) : Int)) none), .lst false (P.map pO)]) (xs2 (xSl_of (show xV 1 _ = some (.lst false Ls) by simp (config := {decide := true}) only [Dv.get, Dv.xV, Dv.xC, Dv.frz, Dv.frzs, Dv.flat, Dv.flats, Dv.clean, Dv.cleans, Dv.frzSlot, Dv.frz1, Dv.frzAt, Dv.put, Dv.addD, Dv.subD, Dv.mulD, Dv.fdivD, Dv.modD, Dv.negD, Dv.x2, Dv.x1, Dv.xsN, Dv.xsC, Dv.xTup, Dv.xLst, Dv.xCall, Dv.asB, Dv.tOf, Dv.tNot, Dv.tAnd, Dv.tOr, Dv.xB, Dv.xIf, Dv.cmpI, Dv.ltD, Dv.leD, Dv.gtD, Dv.geD, Dv.xAnd, Dv.xOr, Dv.xNot, Dv.sN, Dv.sSeq, Dv.sSet, Dv.sRet, Dv.sRetV, Dv.sIf, Dv.sBk, Dv.sCt, Dv.gN, Dv.gsN, Dv.gsC, Dv.gT, Dv.fnD, Dv.ixD, Dv.slD, Dv.pN, Dv.pI, Dv.xSl, Dv.lenD', Dv.intD, Dv.maxD, Dv.minD, Dv.allD, Dv.anyD, Dv.allB, Dv.listD, Dv.xF, Dv.isiD, Dv.eqD, Dv.neD, Dv.isND, Dv.notND, Dv.isN2, Dv.notN2, Dv.sApp, Dv.itL, Dv.itR1, Dv.itR2, Dv.rngL, Dv.zipL, Dv.zipO, Dv.itZ, Dv.enuL, Dv.enuO, Dv.itEn, Dv.wipeD, Dv.keepD, Dv.tY, Dv.sAsg, Dv.sPar, Dv.sPar3, Dv.sAugI, Dv.sDrop, Dv.at_20, Dv.at_21, Dv.at_30, Dv.at_31, Dv.at_32, Dv.at_40, Dv.at_41, Dv.at_42, Dv.at_43, Dv.at_10, Dv.frzs_ints, Dv.cleans_ints, Dv.le_sLine, Dv.sh_non, Dv.sh_bl, Dv.sh_int, Dv.sh_tup, Dv.sh_lst, Dv.eqo_int, Dv.eqo_bl, Dv.eqo_tup, Dv.eqo_lst, Dv.eqos_nil, Dv.eqos_cons, List.all_cons, List.all_nil, Dv.beq_tt, Dv.beq_ff, Dv.beq_tf, Dv.beq_ft, List.getElem?_cons_zero, List.getElem?_cons_succ, List.getElem?_nil, List.set_cons_zero, List.set_cons_succ, List.set_nil, Option.bind_some, Option.bind_none, Option.map_some, Option.map_none, if_true, if_false, ↓reduceIte, decide_true, decide_false, Bool.false_eq_true, Bool.true_and, Bool.and_true, Bool.false_and, Bool.and_false, Bool.not_true, Bool.not_false, Bool.true_or, Bool.or_true, Bool.false_or, Bool.or_false, List.cons_append, List.nil_append, List.length_cons, List.length_nil, List.map_cons, List.map_nil, List.replicate_succ, List.replicate_zero, Nat.reduceAdd, Nat.reduceSub, Nat.reduceLT, Nat.reduceEqDiff, Nat.reduceLeDiff, Int.reduceAdd, Int.reduceSub, Int.reduceMul, Int.reduceNeg, Int.reduceLT, Int.reduceLE, Int.reduceEq, Int.reduceMod, Int.reduceDiv, Int.reduceToNat, Nat.add_zero, Nat.zero_add, List.contains_cons, List.contains_nil, Nat.reduceBEq, beq_self_eq_true, reduceCtorEq, and_true, true_and, and_false, false_and, not_true_eq_false, not_false_eq_true, Dv.mulOk_sz, fL]) (l := some ((11 + 4 * n : Nat) : Int)) (by
            haveI : Sz 1 (n : Int) := sz1 (by omega) (by omega)
            obtain ⟨J, hJ⟩ : ∃ J, P.map pO = J := ⟨_, rfl⟩
            rw [hJ]
            have : ((11 + 4 * n : Nat) : Int) = 11 + 4 * (n : Int) := by omega
            rw [this]
            simp (config := {decide := true}) only [Dv.get, Dv.xV, Dv.xC, Dv.frz, Dv.frzs, Dv.flat, Dv.flats, Dv.clean, Dv.cleans, Dv.frzSlot, Dv.frz1, Dv.frzAt, Dv.put, Dv.addD, Dv.subD, Dv.mulD, Dv.fdivD, Dv.modD, Dv.negD, Dv.x2, Dv.x1, Dv.xsN, Dv.xsC, Dv.xTup, Dv.xLst, Dv.xCall, Dv.asB, Dv.tOf, Dv.tNot, Dv.tAnd, Dv.tOr, Dv.xB, Dv.xIf, Dv.cmpI, Dv.ltD, Dv.leD, Dv.gtD, Dv.geD, Dv.xAnd, Dv.xOr, Dv.xNot, Dv.sN, Dv.sSeq, Dv.sSet, Dv.sRet, Dv.sRetV, Dv.sIf, Dv.sBk, Dv.sCt, Dv.gN, Dv.gsN, Dv.gsC, Dv.gT, Dv.fnD, Dv.ixD, Dv.slD, Dv.pN, Dv.pI, Dv.xSl, Dv.lenD', Dv.intD, Dv.maxD, Dv.minD, Dv.allD, Dv.anyD, Dv.allB, Dv.listD, Dv.xF, Dv.isiD, Dv.eqD, Dv.neD, Dv.isND, Dv.notND, Dv.isN2, Dv.notN2, Dv.sApp, Dv.itL, Dv.itR1, Dv.itR2, Dv.rngL, Dv.zipL, Dv.zipO, Dv.itZ, Dv.enuL, Dv.enuO, Dv.itEn, Dv.wipeD, Dv.keepD, Dv.tY, Dv.sAsg, Dv.sPar, Dv.sPar3, Dv.sAugI, Dv.sDrop, Dv.at_20, Dv.at_21, Dv.at_30, Dv.at_31, Dv.at_32, Dv.at_40, Dv.at_41, Dv.at_42, Dv.at_43, Dv.at_10, Dv.frzs_ints, Dv.cleans_ints, Dv.le_sLine, Dv.sh_non, Dv.sh_bl, Dv.sh_int, Dv.sh_tup, Dv.sh_lst, Dv.eqo_int, Dv.eqo_bl, Dv.eqo_tup, Dv.eqo_lst, Dv.eqos_nil, Dv.eqos_cons, List.all_cons, List.all_nil, Dv.beq_tt, Dv.beq_ff, Dv.beq_tf, Dv.beq_ft, List.getElem?_cons_zero, List.getElem?_cons_succ, List.getElem?_nil, List.set_cons_zero, List.set_cons_succ, List.set_nil, Option.bind_some, Option.bind_none, Option.map_some, Option.map_none, if_true, if_false, ↓reduceIte, decide_true, decide_false, Bool.false_eq_true, Bool.true_and, Bool.and_true, Bool.false_and, Bool.and_false, Bool.not_true, Bool.not_false, Bool.true_or, Bool.or_true, Bool.false_or, Bool.or_false, List.cons_append, List.nil_append, List.length_cons, List.length_nil, List.map_cons, List.map_nil, List.replicate_succ, List.replicate_zero, Nat.reduceAdd, Nat.reduceSub, Nat.reduceLT, Nat.reduceEqDiff, Nat.reduceLeDiff, Int.reduceAdd, Int.reduceSub, Int.reduceMul, Int.reduceNeg, Int.reduceLT, Int.reduceLE, Int.reduceEq, Int.reduceMod, Int.reduceDiv, Int.reduceToNat, Nat.add_zero, Nat.zero_add, List.contains_cons, List.contains_nil, Nat.reduceBEq, beq_self_eq_true, reduceCtorEq, and_true, true_and, and_false, false_and, not_true_eq_false, not_false_eq_true, Dv.mulOk_sz, ]) rfl rfl) (show some (frz (.lst true (P.map pO))) = _ by rw [pO_frz])) ?_
          show f__law_bent [.lst false (frzs (cut Ls (some ((11 + 4 * n : Nat) : Int)) none)), .lst false (frzs (P.map pO))] = _
          rw [frzs_pO]
          exact (congrArg f__law_bent (by rw [k1])).trans ((show f__law_bent [.lst false (cut Ls (some ((11 + 4 * n : Nat) : Int)) none), .lst false (P.map pO)] = f__law_bent [.lst true (cut Ls (some ((11 + 4 * n : Nat) : Int)) none), .lst false (P.map pO)] by
            unfold f__law_bent
            show fnD 2 7 s__law_bent [.lst false _, _] = fnD 2 7 s__law_bent [.lst true _, _]
            unfold fnD
            rfl).trans h1)
        refine ⟨_, _, rfl, ?_, cut Q none (some 12), some (.int n), 3 * b + 400, rfl, ?_, h2.sub (Int.le_refl _) (fun _ => cut_mem), by omega, fun h => by omega, fun h => by omega, by omega⟩
        · unfold b1_law
          refine if_t (c1.trans (by rw [decide_eq_true z])) (set_nx (o := .lst true ((cut Q none (some 12)).map pO)) (xSl_of ev rfl rfl slL) (put_cl (by show (true && cleans _) = true; rw [cP]; rfl)))
        · have := cut_to (L := Q) (k := 12)
          rw [show ((12 : Nat) : Int) = 12 from rfl] at this
          rw [this, List.length_take]; omega
      · refine ⟨_, _, rfl, if_f (c1.trans (by rw [decide_eq_false z])) rfl, P, some (.int n), b, rfl, q2, q3, q4, fun h => by omega, fun h => by omega, q7⟩) ⟨B, none, 3000, rfl, by omega, bB, by decide, fun _ => by decide, fun _ => by decide, by decide⟩
    refine ⟨P, t3, ?_, q2, q3.sub (by omega) fun _ h => h⟩
    unfold sFor
    rw [rk, Option.bind_some, frzs_rng]
    exact h1
  obtain ⟨P, t3, hlp, l12, hP⟩ := lp
  refine seq_nx hlp ?_
  have mid : ∃ P' : List S2, sIf (tOf (x2 eqD (x2 modD (x2 fdivD (x2 ixD (xV 1) (xC (.int 10))) (xC (.int 3))) (xC (.int 9))) (xC (.int 0)))) (sSet [2] 2 (xSl (xV 2) pN (pI (x2 modD (x2 ixD (xV 1) (xC (.int 11))) (xC (.int 3)))))) (sN) [some (.scr ns), some (.lst true Ls), some (.lst true (P.map pO)), t3, none, none] = some (.nx [some (.scr ns), some (.lst true Ls), some (.lst true (P'.map pO)), t3, none, none]) ∧ P'.length ≤ 12 ∧ Bdd 100000 P' := by
    have c1 : tOf (x2 eqD (x2 modD (x2 fdivD (x2 ixD (xV 1) (xC (.int 10))) (xC (.int 3))) (xC (.int 9))) (xC (.int 0))) [some (.scr ns), some (.lst true Ls), some (.lst true (P.map pO)), t3, none, none] = some (decide (a10 / 3 % 9 = 0)) := by
      unfold tOf
      rw [x2_of (f := eqD) (x := .int (a10 / 3 % 9)) (y := .int 0) (by
        obtain ⟨J, hJ⟩ : ∃ J, P.map pO = J := ⟨_, rfl⟩
        rw [hJ]
        simp (config := {decide := true}) only [Dv.get, Dv.xV, Dv.xC, Dv.frz, Dv.frzs, Dv.flat, Dv.flats, Dv.clean, Dv.cleans, Dv.frzSlot, Dv.frz1, Dv.frzAt, Dv.put, Dv.addD, Dv.subD, Dv.mulD, Dv.fdivD, Dv.modD, Dv.negD, Dv.x2, Dv.x1, Dv.xsN, Dv.xsC, Dv.xTup, Dv.xLst, Dv.xCall, Dv.asB, Dv.tOf, Dv.tNot, Dv.tAnd, Dv.tOr, Dv.xB, Dv.xIf, Dv.cmpI, Dv.ltD, Dv.leD, Dv.gtD, Dv.geD, Dv.xAnd, Dv.xOr, Dv.xNot, Dv.sN, Dv.sSeq, Dv.sSet, Dv.sRet, Dv.sRetV, Dv.sIf, Dv.sBk, Dv.sCt, Dv.gN, Dv.gsN, Dv.gsC, Dv.gT, Dv.fnD, Dv.ixD, Dv.slD, Dv.pN, Dv.pI, Dv.xSl, Dv.lenD', Dv.intD, Dv.maxD, Dv.minD, Dv.allD, Dv.anyD, Dv.allB, Dv.listD, Dv.xF, Dv.isiD, Dv.eqD, Dv.neD, Dv.isND, Dv.notND, Dv.isN2, Dv.notN2, Dv.sApp, Dv.itL, Dv.itR1, Dv.itR2, Dv.rngL, Dv.zipL, Dv.zipO, Dv.itZ, Dv.enuL, Dv.enuO, Dv.itEn, Dv.wipeD, Dv.keepD, Dv.tY, Dv.sAsg, Dv.sPar, Dv.sPar3, Dv.sAugI, Dv.sDrop, Dv.at_20, Dv.at_21, Dv.at_30, Dv.at_31, Dv.at_32, Dv.at_40, Dv.at_41, Dv.at_42, Dv.at_43, Dv.at_10, Dv.frzs_ints, Dv.cleans_ints, Dv.le_sLine, Dv.sh_non, Dv.sh_bl, Dv.sh_int, Dv.sh_tup, Dv.sh_lst, Dv.eqo_int, Dv.eqo_bl, Dv.eqo_tup, Dv.eqo_lst, Dv.eqos_nil, Dv.eqos_cons, List.all_cons, List.all_nil, Dv.beq_tt, Dv.beq_ff, Dv.beq_tf, Dv.beq_ft, List.getElem?_cons_zero, List.getElem?_cons_succ, List.getElem?_nil, List.set_cons_zero, List.set_cons_succ, List.set_nil, Option.bind_some, Option.bind_none, Option.map_some, Option.map_none, if_true, if_false, ↓reduceIte, decide_true, decide_false, Bool.false_eq_true, Bool.true_and, Bool.and_true, Bool.false_and, Bool.and_false, Bool.not_true, Bool.not_false, Bool.true_or, Bool.or_true, Bool.false_or, Bool.or_false, List.cons_append, List.nil_append, List.length_cons, List.length_nil, List.map_cons, List.map_nil, List.replicate_succ, List.replicate_zero, Nat.reduceAdd, Nat.reduceSub, Nat.reduceLT, Nat.reduceEqDiff, Nat.reduceLeDiff, Int.reduceAdd, Int.reduceSub, Int.reduceMul, Int.reduceNeg, Int.reduceLT, Int.reduceLE, Int.reduceEq, Int.reduceMod, Int.reduceDiv, Int.reduceToNat, Nat.add_zero, Nat.zero_add, List.contains_cons, List.contains_nil, Nat.reduceBEq, beq_self_eq_true, reduceCtorEq, and_true, true_and, and_false, false_and, not_true_eq_false, not_false_eq_true, Dv.mulOk_sz, fL, i10, d3, d9]) rfl (eqII _ _)]
      rfl
    by_cases z : a10 / 3 % 9 = 0
    · refine ⟨cut P none (some (a11 % 3)), if_t (by rw [c1, decide_eq_true z]) (set_nx (o := .lst true ((cut P none (some (a11 % 3))).map pO)) (xSl_of (show _ = some (frz (.lst true (P.map pO))) from rfl) rfl (h := some (a11 % 3)) (by
        obtain ⟨J, hJ⟩ : ∃ J, P.map pO = J := ⟨_, rfl⟩
        rw [hJ]
        simp (config := {decide := true}) only [Dv.get, Dv.xV, Dv.xC, Dv.frz, Dv.frzs, Dv.flat, Dv.flats, Dv.clean, Dv.cleans, Dv.frzSlot, Dv.frz1, Dv.frzAt, Dv.put, Dv.addD, Dv.subD, Dv.mulD, Dv.fdivD, Dv.modD, Dv.negD, Dv.x2, Dv.x1, Dv.xsN, Dv.xsC, Dv.xTup, Dv.xLst, Dv.xCall, Dv.asB, Dv.tOf, Dv.tNot, Dv.tAnd, Dv.tOr, Dv.xB, Dv.xIf, Dv.cmpI, Dv.ltD, Dv.leD, Dv.gtD, Dv.geD, Dv.xAnd, Dv.xOr, Dv.xNot, Dv.sN, Dv.sSeq, Dv.sSet, Dv.sRet, Dv.sRetV, Dv.sIf, Dv.sBk, Dv.sCt, Dv.gN, Dv.gsN, Dv.gsC, Dv.gT, Dv.fnD, Dv.ixD, Dv.slD, Dv.pN, Dv.pI, Dv.xSl, Dv.lenD', Dv.intD, Dv.maxD, Dv.minD, Dv.allD, Dv.anyD, Dv.allB, Dv.listD, Dv.xF, Dv.isiD, Dv.eqD, Dv.neD, Dv.isND, Dv.notND, Dv.isN2, Dv.notN2, Dv.sApp, Dv.itL, Dv.itR1, Dv.itR2, Dv.rngL, Dv.zipL, Dv.zipO, Dv.itZ, Dv.enuL, Dv.enuO, Dv.itEn, Dv.wipeD, Dv.keepD, Dv.tY, Dv.sAsg, Dv.sPar, Dv.sPar3, Dv.sAugI, Dv.sDrop, Dv.at_20, Dv.at_21, Dv.at_30, Dv.at_31, Dv.at_32, Dv.at_40, Dv.at_41, Dv.at_42, Dv.at_43, Dv.at_10, Dv.frzs_ints, Dv.cleans_ints, Dv.le_sLine, Dv.sh_non, Dv.sh_bl, Dv.sh_int, Dv.sh_tup, Dv.sh_lst, Dv.eqo_int, Dv.eqo_bl, Dv.eqo_tup, Dv.eqo_lst, Dv.eqos_nil, Dv.eqos_cons, List.all_cons, List.all_nil, Dv.beq_tt, Dv.beq_ff, Dv.beq_tf, Dv.beq_ft, List.getElem?_cons_zero, List.getElem?_cons_succ, List.getElem?_nil, List.set_cons_zero, List.set_cons_succ, List.set_nil, Option.bind_some, Option.bind_none, Option.map_some, Option.map_none, if_true, if_false, ↓reduceIte, decide_true, decide_false, Bool.false_eq_true, Bool.true_and, Bool.and_true, Bool.false_and, Bool.and_false, Bool.not_true, Bool.not_false, Bool.true_or, Bool.or_true, Bool.false_or, Bool.or_false, List.cons_append, List.nil_append, List.length_cons, List.length_nil, List.map_cons, List.map_nil, List.replicate_succ, List.replicate_zero, Nat.reduceAdd, Nat.reduceSub, Nat.reduceLT, Nat.reduceEqDiff, Nat.reduceLeDiff, Int.reduceAdd, Int.reduceSub, Int.reduceMul, Int.reduceNeg, Int.reduceLT, Int.reduceLE, Int.reduceEq, Int.reduceMod, Int.reduceDiv, Int.reduceToNat, Nat.add_zero, Nat.zero_add, List.contains_cons, List.contains_nil, Nat.reduceBEq, beq_self_eq_true, reduceCtorEq, and_true, true_and, and_false, false_and, not_true_eq_false, not_false_eq_true, Dv.mulOk_sz, fL, i11, d3]) (by rw [pO_frz, slL])) (put_cl (by show (true && cleans _) = true; rw [cP]; rfl))), Nat.le_trans cut_le l12, hP.sub (Int.le_refl _) fun _ => cut_mem⟩
    · exact ⟨P, if_f (by rw [c1, decide_eq_false z]) rfl, l12, hP⟩
  obtain ⟨P', hmid, l12', hP'⟩ := mid
  refine seq_nx hmid ?_
  have r1 := is_bank_eq hP' l12' false
  have r2 := is_round_eq hP' l12' false
  have gd := eqD_self (o := false) (p := false) (pO_gd P' (Nat.le_trans l12' (by decide)) false)
  have fJ := frzs_pO P'
  have cJ := cP P'
  obtain ⟨J, hJ⟩ : ∃ J, P'.map pO = J := ⟨_, rfl⟩
  rw [hJ] at r1 r2 gd fJ cJ ⊢
  refine seq_nx (τ' := [some (.scr ns), some (.lst true Ls), some (.lst true J), t3, some (.lst true J), none]) (by simp only [Dv.get, Dv.xV, Dv.xC, Dv.frz, Dv.frzs, Dv.flat, Dv.flats, Dv.clean, Dv.cleans, Dv.frzSlot, Dv.frz1, Dv.frzAt, Dv.put, Dv.addD, Dv.subD, Dv.mulD, Dv.fdivD, Dv.modD, Dv.negD, Dv.x2, Dv.x1, Dv.xsN, Dv.xsC, Dv.xTup, Dv.xLst, Dv.xCall, Dv.asB, Dv.tOf, Dv.tNot, Dv.tAnd, Dv.tOr, Dv.xB, Dv.xIf, Dv.cmpI, Dv.ltD, Dv.leD, Dv.gtD, Dv.geD, Dv.xAnd, Dv.xOr, Dv.xNot, Dv.sN, Dv.sSeq, Dv.sSet, Dv.sRet, Dv.sRetV, Dv.sIf, Dv.sBk, Dv.sCt, Dv.gN, Dv.gsN, Dv.gsC, Dv.gT, Dv.fnD, Dv.ixD, Dv.slD, Dv.pN, Dv.pI, Dv.xSl, Dv.lenD', Dv.intD, Dv.maxD, Dv.minD, Dv.allD, Dv.anyD, Dv.allB, Dv.listD, Dv.xF, Dv.isiD, Dv.eqD, Dv.neD, Dv.isND, Dv.notND, Dv.isN2, Dv.notN2, Dv.sApp, Dv.itL, Dv.itR1, Dv.itR2, Dv.rngL, Dv.zipL, Dv.zipO, Dv.itZ, Dv.enuL, Dv.enuO, Dv.itEn, Dv.wipeD, Dv.keepD, Dv.tY, Dv.sAsg, Dv.sPar, Dv.sPar3, Dv.sAugI, Dv.sDrop, Dv.at_20, Dv.at_21, Dv.at_30, Dv.at_31, Dv.at_32, Dv.at_40, Dv.at_41, Dv.at_42, Dv.at_43, Dv.at_10, Dv.frzs_ints, Dv.cleans_ints, Dv.le_sLine, Dv.sh_non, Dv.sh_bl, Dv.sh_int, Dv.sh_tup, Dv.sh_lst, Dv.eqo_int, Dv.eqo_bl, Dv.eqo_tup, Dv.eqo_lst, Dv.eqos_nil, Dv.eqos_cons, List.all_cons, List.all_nil, Dv.beq_tt, Dv.beq_ff, Dv.beq_tf, Dv.beq_ft, List.getElem?_cons_zero, List.getElem?_cons_succ, List.getElem?_nil, List.set_cons_zero, List.set_cons_succ, List.set_nil, Option.bind_some, Option.bind_none, Option.map_some, Option.map_none, if_true, if_false, ↓reduceIte, decide_true, decide_false, Bool.false_eq_true, Bool.true_and, Bool.and_true, Bool.false_and, Bool.and_false, Bool.not_true, Bool.not_false, Bool.true_or, Bool.or_true, Bool.false_or, Bool.or_false, List.cons_append, List.nil_append, List.length_cons, List.length_nil, List.map_cons, List.map_nil, List.replicate_succ, List.replicate_zero, Nat.reduceAdd, Nat.reduceSub, Nat.reduceLT, Nat.reduceEqDiff, Nat.reduceLeDiff, Int.reduceAdd, Int.reduceSub, Int.reduceMul, Int.reduceNeg, Int.reduceLT, Int.reduceLE, Int.reduceEq, Int.reduceMod, Int.reduceDiv, Int.reduceToNat, Nat.add_zero, Nat.zero_add, List.contains_cons, List.contains_nil, Nat.reduceBEq, beq_self_eq_true, reduceCtorEq, and_true, true_and, and_false, false_and, not_true_eq_false, not_false_eq_true, listE, fJ, cJ]) ?_
  have e9 : frzs [O.lst false J] = [.lst false J] := by show [O.lst false (frzs J)] = _; rw [fJ]
  have s1 : xCall f_is_bank (xsC (xV 4) (xsN)) [some (.scr ns), some (.lst true Ls), some (.lst true J), t3, some (.lst true J), none] = some (.bl (rdB P')) := by
    refine xCall_g (xs := [.lst false J]) (by simp (config := {decide := true}) only [Dv.get, Dv.xV, Dv.xC, Dv.frz, Dv.frzs, Dv.flat, Dv.flats, Dv.clean, Dv.cleans, Dv.frzSlot, Dv.frz1, Dv.frzAt, Dv.put, Dv.addD, Dv.subD, Dv.mulD, Dv.fdivD, Dv.modD, Dv.negD, Dv.x2, Dv.x1, Dv.xsN, Dv.xsC, Dv.xTup, Dv.xLst, Dv.xCall, Dv.asB, Dv.tOf, Dv.tNot, Dv.tAnd, Dv.tOr, Dv.xB, Dv.xIf, Dv.cmpI, Dv.ltD, Dv.leD, Dv.gtD, Dv.geD, Dv.xAnd, Dv.xOr, Dv.xNot, Dv.sN, Dv.sSeq, Dv.sSet, Dv.sRet, Dv.sRetV, Dv.sIf, Dv.sBk, Dv.sCt, Dv.gN, Dv.gsN, Dv.gsC, Dv.gT, Dv.fnD, Dv.ixD, Dv.slD, Dv.pN, Dv.pI, Dv.xSl, Dv.lenD', Dv.intD, Dv.maxD, Dv.minD, Dv.allD, Dv.anyD, Dv.allB, Dv.listD, Dv.xF, Dv.isiD, Dv.eqD, Dv.neD, Dv.isND, Dv.notND, Dv.isN2, Dv.notN2, Dv.sApp, Dv.itL, Dv.itR1, Dv.itR2, Dv.rngL, Dv.zipL, Dv.zipO, Dv.itZ, Dv.enuL, Dv.enuO, Dv.itEn, Dv.wipeD, Dv.keepD, Dv.tY, Dv.sAsg, Dv.sPar, Dv.sPar3, Dv.sAugI, Dv.sDrop, Dv.at_20, Dv.at_21, Dv.at_30, Dv.at_31, Dv.at_32, Dv.at_40, Dv.at_41, Dv.at_42, Dv.at_43, Dv.at_10, Dv.frzs_ints, Dv.cleans_ints, Dv.le_sLine, Dv.sh_non, Dv.sh_bl, Dv.sh_int, Dv.sh_tup, Dv.sh_lst, Dv.eqo_int, Dv.eqo_bl, Dv.eqo_tup, Dv.eqo_lst, Dv.eqos_nil, Dv.eqos_cons, List.all_cons, List.all_nil, Dv.beq_tt, Dv.beq_ff, Dv.beq_tf, Dv.beq_ft, List.getElem?_cons_zero, List.getElem?_cons_succ, List.getElem?_nil, List.set_cons_zero, List.set_cons_succ, List.set_nil, Option.bind_some, Option.bind_none, Option.map_some, Option.map_none, if_true, if_false, ↓reduceIte, decide_true, decide_false, Bool.false_eq_true, Bool.true_and, Bool.and_true, Bool.false_and, Bool.and_false, Bool.not_true, Bool.not_false, Bool.true_or, Bool.or_true, Bool.false_or, Bool.or_false, List.cons_append, List.nil_append, List.length_cons, List.length_nil, List.map_cons, List.map_nil, List.replicate_succ, List.replicate_zero, Nat.reduceAdd, Nat.reduceSub, Nat.reduceLT, Nat.reduceEqDiff, Nat.reduceLeDiff, Int.reduceAdd, Int.reduceSub, Int.reduceMul, Int.reduceNeg, Int.reduceLT, Int.reduceLE, Int.reduceEq, Int.reduceMod, Int.reduceDiv, Int.reduceToNat, Nat.add_zero, Nat.zero_add, List.contains_cons, List.contains_nil, Nat.reduceBEq, beq_self_eq_true, reduceCtorEq, and_true, true_and, and_false, false_and, not_true_eq_false, not_false_eq_true, Dv.mulOk_sz, fJ]) ?_
    rw [e9]; exact r1
  refine seq_nx (τ' := [some (.scr ns), some (.lst true Ls), some (.lst true J), t3, some (.lst true J), some (.bl (rdB P'))]) (set_nx s1 rfl) ?_
  have s2 : xCall f__law_is_round (xsC (xV 2) (xsN)) [some (.scr ns), some (.lst true Ls), some (.lst true J), t3, some (.lst true J), some (.bl (rdB P'))] = some (.bl (rdB P')) := by
    refine xCall_g (xs := [.lst false J]) (by simp (config := {decide := true}) only [Dv.get, Dv.xV, Dv.xC, Dv.frz, Dv.frzs, Dv.flat, Dv.flats, Dv.clean, Dv.cleans, Dv.frzSlot, Dv.frz1, Dv.frzAt, Dv.put, Dv.addD, Dv.subD, Dv.mulD, Dv.fdivD, Dv.modD, Dv.negD, Dv.x2, Dv.x1, Dv.xsN, Dv.xsC, Dv.xTup, Dv.xLst, Dv.xCall, Dv.asB, Dv.tOf, Dv.tNot, Dv.tAnd, Dv.tOr, Dv.xB, Dv.xIf, Dv.cmpI, Dv.ltD, Dv.leD, Dv.gtD, Dv.geD, Dv.xAnd, Dv.xOr, Dv.xNot, Dv.sN, Dv.sSeq, Dv.sSet, Dv.sRet, Dv.sRetV, Dv.sIf, Dv.sBk, Dv.sCt, Dv.gN, Dv.gsN, Dv.gsC, Dv.gT, Dv.fnD, Dv.ixD, Dv.slD, Dv.pN, Dv.pI, Dv.xSl, Dv.lenD', Dv.intD, Dv.maxD, Dv.minD, Dv.allD, Dv.anyD, Dv.allB, Dv.listD, Dv.xF, Dv.isiD, Dv.eqD, Dv.neD, Dv.isND, Dv.notND, Dv.isN2, Dv.notN2, Dv.sApp, Dv.itL, Dv.itR1, Dv.itR2, Dv.rngL, Dv.zipL, Dv.zipO, Dv.itZ, Dv.enuL, Dv.enuO, Dv.itEn, Dv.wipeD, Dv.keepD, Dv.tY, Dv.sAsg, Dv.sPar, Dv.sPar3, Dv.sAugI, Dv.sDrop, Dv.at_20, Dv.at_21, Dv.at_30, Dv.at_31, Dv.at_32, Dv.at_40, Dv.at_41, Dv.at_42, Dv.at_43, Dv.at_10, Dv.frzs_ints, Dv.cleans_ints, Dv.le_sLine, Dv.sh_non, Dv.sh_bl, Dv.sh_int, Dv.sh_tup, Dv.sh_lst, Dv.eqo_int, Dv.eqo_bl, Dv.eqo_tup, Dv.eqo_lst, Dv.eqos_nil, Dv.eqos_cons, List.all_cons, List.all_nil, Dv.beq_tt, Dv.beq_ff, Dv.beq_tf, Dv.beq_ft, List.getElem?_cons_zero, List.getElem?_cons_succ, List.getElem?_nil, List.set_cons_zero, List.set_cons_succ, List.set_nil, Option.bind_some, Option.bind_none, Option.map_some, Option.map_none, if_true, if_false, ↓reduceIte, decide_true, decide_false, Bool.false_eq_true, Bool.true_and, Bool.and_true, Bool.false_and, Bool.and_false, Bool.not_true, Bool.not_false, Bool.true_or, Bool.or_true, Bool.false_or, Bool.or_false, List.cons_append, List.nil_append, List.length_cons, List.length_nil, List.map_cons, List.map_nil, List.replicate_succ, List.replicate_zero, Nat.reduceAdd, Nat.reduceSub, Nat.reduceLT, Nat.reduceEqDiff, Nat.reduceLeDiff, Int.reduceAdd, Int.reduceSub, Int.reduceMul, Int.reduceNeg, Int.reduceLT, Int.reduceLE, Int.reduceEq, Int.reduceMod, Int.reduceDiv, Int.reduceToNat, Nat.add_zero, Nat.zero_add, List.contains_cons, List.contains_nil, Nat.reduceBEq, beq_self_eq_true, reduceCtorEq, and_true, true_and, and_false, false_and, not_true_eq_false, not_false_eq_true, Dv.mulOk_sz, fJ]) ?_
    rw [e9]; exact r2
  have s3 : x2 eqD (xV 5) (xCall f__law_is_round (xsC (xV 2) (xsN))) [some (.scr ns), some (.lst true Ls), some (.lst true J), t3, some (.lst true J), some (.bl (rdB P'))] = some (.bl true) := by
    refine x2_of (x := .bl (rdB P')) rfl s2 ?_
    cases rdB P' <;> rfl
  have s4 : x2 eqD (xV 4) (xV 2) [some (.scr ns), some (.lst true Ls), some (.lst true J), t3, some (.lst true J), some (.bl (rdB P'))] = some (.bl true) := by
    refine x2_of (x := .lst false J) (y := .lst false J) ?_ ?_ gd
    · show some (O.lst false (frzs J)) = _
      rw [fJ]
    · show some (O.lst false (frzs J)) = _
      rw [fJ]
  refine ret_of ?_
  unfold xAnd tOf
  rw [s4, s3]
  rfl
end Sm

end
section
set_option Elab.async false
set_option linter.all false
set_option maxRecDepth 100000
/-! the walk, printed by gen.py -/
namespace Wk
open PySem PySem.Spec L2 Dv Sm
open PyProof.Rows hiding St
def topS (i : Nat) : Stmt := PySem.Challenge.pw_seamarks_k23_banks_or_not.main.body.getD i (.Pass ⟨0, 0, 0, 0⟩)
section
variable {P : Program} {w : World} {K : PySem.W.Frag} {mg : Str → Option Value} {base : Heap}
set_option maxHeartbeats 4000000 in
abbrev t__law_turned : Stmt := topS 11
theorem c__law_turned : FnScope ["_law_one", "_law_other"] ["_law_one", "_law_other"] (defScope t__law_turned) := ⟨rfl, rfl, rfl, by decide +kernel, rfl, by decide +kernel, by decide +kernel⟩
theorem ok__law_turned (D : DefF K mg "_law_turned" t__law_turned ["_law_one", "_law_other"]) (B : Blt mg)  : Ok P w K mg base 1 "_law_turned" ["_law_one", "_law_other"] f__law_turned := by
  refine ok_mk (k := 0) (N := ["_law_one", "_law_other"]) D c__law_turned fun f cdv A outer s H E hr => ?_
  have nd := c__law_turned.nd
  exact (dss_one (ds_ret (de_2 op_sub o_sub (de_2 op_mulW o_mul (de_ix (de_var 0 rfl (Or.inl rfl)) de_int (fun _ _ => rfl)) (de_ix (de_var 1 rfl (Or.inl rfl)) de_int (fun _ _ => rfl))) (de_2 op_mulW o_mul (de_ix (de_var 0 rfl (Or.inl rfl)) de_int (fun _ _ => rfl)) (de_ix (de_var 1 rfl (Or.inl rfl)) de_int (fun _ _ => rfl))))))
set_option maxHeartbeats 4000000 in
abbrev t__law_way : Stmt := topS 10
theorem c__law_way : FnScope ["_law_one", "_law_two", "_law_wide", "_law_x", "_law_y"] ["_law_one", "_law_two", "_law_wide"] (defScope t__law_way) := ⟨rfl, rfl, rfl, by decide +kernel, rfl, by decide +kernel, by decide +kernel⟩
theorem ok__law_way (D : DefF K mg "_law_way" t__law_way ["_law_one", "_law_two", "_law_wide"]) (B : Blt mg)  : Ok P w K mg base 1 "_law_way" ["_law_one", "_law_two", "_law_wide"] f__law_way := by
  refine ok_mk (k := 0) (N := ["_law_one", "_law_two", "_law_wide", "_law_x", "_law_y"]) D c__law_way fun f cdv A outer s H E hr => ?_
  have nd := c__law_way.nd
  exact (dss_cons (ds_set (i := 3) nd (de_2 op_sub o_sub (de_2 op_mod o_mod (de_var 0 rfl (Or.inl rfl)) (de_2 r_add o_add (de_2 op_mulW o_mul de_int (de_var 2 rfl (Or.inl rfl))) de_int)) (de_var 2 rfl (Or.inl rfl))) rfl (Or.inl rfl))
  (dss_cons (ds_set (i := 4) nd (de_2 op_sub o_sub (de_2 op_mod o_mod (de_var 1 rfl (Or.inl rfl)) (de_2 r_add o_add (de_2 op_mulW o_mul de_int (de_var 2 rfl (Or.inl rfl))) de_int)) (de_var 2 rfl (Or.inl rfl))) rfl (Or.inl rfl))
  (dss_cons (ds_if (dw_pt (dw_and (dt_cmp (op_eqD hr.units) o_eq (de_var 3 rfl (Or.inl rfl)) de_int (nomark _)) (dw_and1 (dt_cmp (op_eqD hr.units) o_eq (de_var 4 rfl (Or.inl rfl)) de_int (nomark _))))) (dss_one (ds_set (i := 3) nd (de_2 op_sub o_sub de_int (de_2 op_mulW o_mul de_int (de_2 op_mod o_mod (de_var 0 rfl (Or.inl rfl)) de_int))) rfl (Or.inl rfl))) dss_nil)
  (dss_one (ds_ret (de_tup (da_cons (de_var 3 rfl (Or.inl rfl)) (da_cons (de_var 4 rfl (Or.inl rfl)) da_nil))))))))
set_option maxHeartbeats 4000000 in
abbrev t__law_left_pair : Stmt := topS 12
theorem c__law_left_pair : FnScope ["_law_d", "_law_wide", "_law_one", "_law_other"] ["_law_d", "_law_wide"] (defScope t__law_left_pair) := ⟨rfl, rfl, rfl, by decide +kernel, rfl, by decide +kernel, by decide +kernel⟩
theorem ok__law_left_pair (D : DefF K mg "_law_left_pair" t__law_left_pair ["_law_d", "_law_wide"]) (B : Blt mg) (C__law_turned : Ok P w K mg base 1 "_law_turned" ["_law_one", "_law_other"] f__law_turned) (C__law_way : Ok P w K mg base 1 "_law_way" ["_law_one", "_law_two", "_law_wide"] f__law_way) : Ok P w K mg base 2 "_law_left_pair" ["_law_d", "_law_wide"] f__law_left_pair := by
  refine ok_mk (k := 1) (N := ["_law_d", "_law_wide", "_law_one", "_law_other"]) D c__law_left_pair fun f cdv A outer s H E hr => ?_
  have nd := c__law_left_pair.nd
  exact (dss_cons (ds_set (i := 2) nd (de_def (C__law_way.up (by decide)) hr (da_cons (de_ix (de_var 0 rfl (Or.inl rfl)) de_int (fun _ _ => rfl)) (da_cons (de_ix (de_var 0 rfl (Or.inl rfl)) de_int (fun _ _ => rfl)) (da_cons (de_var 1 rfl (Or.inl rfl)) da_nil))) (xs_len (xs_len (xs_len xs_len0)))) rfl (Or.inl rfl))
  (dss_cons (ds_set (i := 3) nd (de_def (C__law_way.up (by decide)) hr (da_cons (de_ix (de_var 0 rfl (Or.inl rfl)) de_int (fun _ _ => rfl)) (da_cons (de_ix (de_var 0 rfl (Or.inl rfl)) de_int (fun _ _ => rfl)) (da_cons (de_var 1 rfl (Or.inl rfl)) da_nil))) (xs_len (xs_len (xs_len xs_len0)))) rfl (Or.inl rfl))
  (dss_cons (ds_if (dt_cmp (op_eqD hr.units) o_eq (de_2 op_mod o_mod (de_ix (de_var 0 rfl (Or.inl rfl)) de_int (fun _ _ => rfl)) de_int) de_int (nomark _)) (dss_one (ds_set (i := 3) nd (de_tup (da_cons (de_neg (de_ix (de_var 2 rfl (Or.inl rfl)) de_int (fun _ _ => rfl))) (da_cons (de_ix (de_var 2 rfl (Or.inl rfl)) de_int (fun _ _ => rfl)) da_nil))) rfl (Or.inl rfl))) dss_nil)
  (dss_cons (ds_if (dt_cmp op_lt o_cmpI (de_def (C__law_turned.up (by decide)) hr (da_cons (de_var 2 rfl (Or.inl rfl)) (da_cons (de_var 3 rfl (Or.inl rfl)) da_nil)) (xs_len (xs_len xs_len0))) de_int (nomark _)) (dss_one (ds_par (i := 2) (j := 3) rfl nd (da_cons (de_var 3 rfl (Or.inl rfl)) (da_cons (de_var 2 rfl (Or.inl rfl)) da_nil)))) dss_nil)
  (dss_cons (ds_if (dt_cmp (op_eqD hr.units) o_eq (de_def (C__law_turned.up (by decide)) hr (da_cons (de_var 2 rfl (Or.inl rfl)) (da_cons (de_var 3 rfl (Or.inl rfl)) da_nil)) (xs_len (xs_len xs_len0))) de_int (nomark _)) (dss_one (ds_set (i := 3) nd (de_tup (da_cons (de_neg (de_ix (de_var 2 rfl (Or.inl rfl)) de_int (fun _ _ => rfl))) (da_cons (de_ix (de_var 2 rfl (Or.inl rfl)) de_int (fun _ _ => rfl)) da_nil))) rfl (Or.inl rfl))) dss_nil)
  (dss_one (ds_ret (de_tup (da_cons (de_var 2 rfl (Or.inl rfl)) (da_cons (de_var 3 rfl (Or.inl rfl)) da_nil))))))))))
set_option maxHeartbeats 4000000 in
abbrev t__law_bank : Stmt := topS 13
theorem c__law_bank : FnScope ["_law_d", "_law_wide", "_law_one", "_law_other", "_law_x", "_law_y", "_law_p", "_law_q", "_law_leads", "_law_turned_here", "_law_here", "_law_row", "_law_found", "_law_dx", "_law_dy", "_law_at"] ["_law_d", "_law_wide"] (defScope t__law_bank) := ⟨rfl, rfl, rfl, by decide +kernel, rfl, by decide +kernel, by decide +kernel⟩
theorem ok__law_bank (D : DefF K mg "_law_bank" t__law_bank ["_law_d", "_law_wide"]) (B : Blt mg) (C__law_left_pair : Ok P w K mg base 2 "_law_left_pair" ["_law_d", "_law_wide"] f__law_left_pair) : Ok P w K mg base 3 "_law_bank" ["_law_d", "_law_wide"] f__law_bank := by
  refine ok_mk (k := 2) (N := ["_law_d", "_law_wide", "_law_one", "_law_other", "_law_x", "_law_y", "_law_p", "_law_q", "_law_leads", "_law_turned_here", "_law_here", "_law_row", "_law_found", "_law_dx", "_law_dy", "_law_at"]) D c__law_bank fun f cdv A outer s H E hr => ?_
  have nd := c__law_bank.nd
  exact (dss_cons (ds_asg (de_def (C__law_left_pair.up (by decide)) hr (da_cons (de_var 0 rfl (Or.inl rfl)) (da_cons (de_var 1 rfl (Or.inl rfl)) da_nil)) (xs_len (xs_len xs_len0))) (dg_tup rfl (dgs_cons (dg_name (i := 2) nd rfl (Or.inl rfl) (Or.inl rfl)) (dgs_cons (dg_name (i := 3) nd rfl (Or.inl rfl) (Or.inl rfl)) dgs_nil))))
  (dss_cons (ds_asg (de_var 2 rfl (Or.inl rfl)) (dg_tup rfl (dgs_cons (dg_name (i := 4) nd rfl (Or.inl rfl) (Or.inl rfl)) (dgs_cons (dg_name (i := 5) nd rfl (Or.inl rfl) (Or.inl rfl)) dgs_nil))))
  (dss_cons (ds_asg (de_var 3 rfl (Or.inl rfl)) (dg_tup rfl (dgs_cons (dg_name (i := 6) nd rfl (Or.inl rfl) (Or.inl rfl)) (dgs_cons (dg_name (i := 7) nd rfl (Or.inl rfl) (Or.inl rfl)) dgs_nil))))
  (dss_cons (ds_set (i := 8) nd (de_lst (da_cons (de_lst (da_cons (de_tup (da_cons (de_var 4 rfl (Or.inl rfl)) (da_cons (de_var 5 rfl (Or.inl rfl)) da_nil))) (da_cons (de_tup (da_cons (de_2 op_sub o_sub (de_var 6 rfl (Or.inl rfl)) (de_var 4 rfl (Or.inl rfl))) (da_cons (de_2 op_sub o_sub (de_var 7 rfl (Or.inl rfl)) (de_var 5 rfl (Or.inl rfl))) da_nil))) (da_cons (de_tup (da_cons (de_neg (de_var 6 rfl (Or.inl rfl))) (da_cons (de_neg (de_var 7 rfl (Or.inl rfl))) da_nil))) da_nil)))) (da_cons (de_lst (da_cons (de_tup (da_cons (de_var 4 rfl (Or.inl rfl)) (da_cons (de_var 5 rfl (Or.inl rfl)) da_nil))) (da_cons (de_tup (da_cons (de_var 6 rfl (Or.inl rfl)) (da_cons (de_var 7 rfl (Or.inl rfl)) da_nil))) (da_cons (de_tup (da_cons (de_neg (de_var 4 rfl (Or.inl rfl))) (da_cons (de_neg (de_var 5 rfl (Or.inl rfl))) da_nil))) (da_cons (de_tup (da_cons (de_neg (de_var 6 rfl (Or.inl rfl))) (da_cons (de_neg (de_var 7 rfl (Or.inl rfl))) da_nil))) da_nil))))) (da_cons (de_lst (da_cons (de_tup (da_cons (de_2 op_mulW o_mul de_int (de_var 4 rfl (Or.inl rfl))) (da_cons (de_2 op_mulW o_mul de_int (de_var 5 rfl (Or.inl rfl))) da_nil))) (da_cons (de_tup (da_cons (de_var 6 rfl (Or.inl rfl)) (da_cons (de_var 7 rfl (Or.inl rfl)) da_nil))) (da_cons (de_tup (da_cons (de_2 op_sub o_sub (de_var 6 rfl (Or.inl rfl)) (de_var 4 rfl (Or.inl rfl))) (da_cons (de_2 op_sub o_sub (de_var 7 rfl (Or.inl rfl)) (de_var 5 rfl (Or.inl rfl))) da_nil))) (da_cons (de_tup (da_cons (de_neg (de_var 4 rfl (Or.inl rfl))) (da_cons (de_neg (de_var 5 rfl (Or.inl rfl))) da_nil))) (da_cons (de_tup (da_cons (de_2 op_mulW o_mul (de_neg de_int) (de_var 6 rfl (Or.inl rfl))) (da_cons (de_2 op_mulW o_mul (de_neg de_int) (de_var 7 rfl (Or.inl rfl))) da_nil))) da_nil)))))) (da_cons (de_lst (da_cons (de_tup (da_cons (de_var 4 rfl (Or.inl rfl)) (da_cons (de_var 5 rfl (Or.inl rfl)) da_nil))) (da_cons (de_tup (da_cons (de_2 r_add o_add (de_var 4 rfl (Or.inl rfl)) (de_var 6 rfl (Or.inl rfl))) (da_cons (de_2 r_add o_add (de_var 5 rfl (Or.inl rfl)) (de_var 7 rfl (Or.inl rfl))) da_nil))) (da_cons (de_tup (da_cons (de_var 6 rfl (Or.inl rfl)) (da_cons (de_var 7 rfl (Or.inl rfl)) da_nil))) (da_cons (de_tup (da_cons (de_neg (de_var 4 rfl (Or.inl rfl))) (da_cons (de_neg (de_var 5 rfl (Or.inl rfl))) da_nil))) (da_cons (de_tup (da_cons (de_2 op_sub o_sub (de_neg (de_var 4 rfl (Or.inl rfl))) (de_var 6 rfl (Or.inl rfl))) (da_cons (de_2 op_sub o_sub (de_neg (de_var 5 rfl (Or.inl rfl))) (de_var 7 rfl (Or.inl rfl))) da_nil))) (da_cons (de_tup (da_cons (de_neg (de_var 6 rfl (Or.inl rfl))) (da_cons (de_neg (de_var 7 rfl (Or.inl rfl))) da_nil))) da_nil))))))) da_nil))))) rfl (Or.inl rfl))
  (dss_cons (ds_set (i := 9) nd (de_lst (da_cons (de_tup (da_cons (de_var 4 rfl (Or.inl rfl)) (da_cons (de_var 5 rfl (Or.inl rfl)) da_nil))) (da_cons (de_tup (da_cons (de_2 r_add o_add (de_2 op_mulW o_mul de_int (de_var 4 rfl (Or.inl rfl))) (de_var 6 rfl (Or.inl rfl))) (da_cons (de_2 r_add o_add (de_2 op_mulW o_mul de_int (de_var 5 rfl (Or.inl rfl))) (de_var 7 rfl (Or.inl rfl))) da_nil))) (da_cons (de_tup (da_cons (de_2 r_add o_add (de_var 4 rfl (Or.inl rfl)) (de_2 op_mulW o_mul de_int (de_var 6 rfl (Or.inl rfl)))) (da_cons (de_2 r_add o_add (de_var 5 rfl (Or.inl rfl)) (de_2 op_mulW o_mul de_int (de_var 7 rfl (Or.inl rfl)))) da_nil))) (da_cons (de_tup (da_cons (de_var 6 rfl (Or.inl rfl)) (da_cons (de_var 7 rfl (Or.inl rfl)) da_nil))) (da_cons (de_tup (da_cons (de_neg (de_var 4 rfl (Or.inl rfl))) (da_cons (de_neg (de_var 5 rfl (Or.inl rfl))) da_nil))) da_nil)))))) rfl (Or.inl rfl))
  (dss_cons (ds_app 8 (de_2 r_add o_add (de_var 9 rfl (Or.inl rfl)) (de_lst (da_cons (de_tup (da_cons (de_2 op_sub o_sub (de_2 op_mulW o_mul (de_neg de_int) (de_var 4 rfl (Or.inl rfl))) (de_var 6 rfl (Or.inl rfl))) (da_cons (de_2 op_sub o_sub (de_2 op_mulW o_mul (de_neg de_int) (de_var 5 rfl (Or.inl rfl))) (de_var 7 rfl (Or.inl rfl))) da_nil))) (da_cons (de_tup (da_cons (de_2 op_sub o_sub (de_neg (de_var 4 rfl (Or.inl rfl))) (de_2 op_mulW o_mul de_int (de_var 6 rfl (Or.inl rfl)))) (da_cons (de_2 op_sub o_sub (de_neg (de_var 5 rfl (Or.inl rfl))) (de_2 op_mulW o_mul de_int (de_var 7 rfl (Or.inl rfl)))) da_nil))) da_nil)))) rfl (Or.inl rfl))
  (dss_cons (ds_app 8 (de_2 r_add o_add (de_var 9 rfl (Or.inl rfl)) (de_lst (da_cons (de_tup (da_cons (de_2 op_sub o_sub (de_2 op_mulW o_mul (de_neg de_int) (de_var 4 rfl (Or.inl rfl))) (de_var 6 rfl (Or.inl rfl))) (da_cons (de_2 op_sub o_sub (de_2 op_mulW o_mul (de_neg de_int) (de_var 5 rfl (Or.inl rfl))) (de_var 7 rfl (Or.inl rfl))) da_nil))) (da_cons (de_tup (da_cons (de_2 op_sub o_sub (de_neg (de_var 4 rfl (Or.inl rfl))) (de_2 op_mulW o_mul de_int (de_var 6 rfl (Or.inl rfl)))) (da_cons (de_2 op_sub o_sub (de_neg (de_var 5 rfl (Or.inl rfl))) (de_2 op_mulW o_mul de_int (de_var 7 rfl (Or.inl rfl)))) da_nil))) (da_cons (de_tup (da_cons (de_neg (de_var 6 rfl (Or.inl rfl))) (da_cons (de_neg (de_var 7 rfl (Or.inl rfl))) da_nil))) da_nil))))) rfl (Or.inl rfl))
  (dss_cons (ds_set (i := 10) nd (de_tup (da_cons (de_2 op_sub o_sub (de_2 op_mod o_mod (de_ix (de_var 0 rfl (Or.inl rfl)) de_int (fun _ _ => rfl)) de_int) de_int) (da_cons (de_2 op_sub o_sub (de_2 op_mod o_mod (de_ix (de_var 0 rfl (Or.inl rfl)) de_int (fun _ _ => rfl)) de_int) de_int) da_nil))) rfl (Or.inl rfl))
  (dss_cons (ds_set (i := 11) nd (de_ix (de_var 8 rfl (Or.inl rfl)) (de_2 op_mod o_mod (de_ix (de_var 0 rfl (Or.inl rfl)) de_int (fun _ _ => rfl)) de_int) (fun _ _ => rfl)) rfl (Or.inl rfl))
  (dss_cons (ds_set (i := 12) nd (de_lst da_nil) rfl (Or.inl rfl))
  (dss_cons (ds_for PassesOwn.never rfl (di_seq (de_var 11 rfl (Or.inl rfl))) (dg_tup rfl (dgs_cons (dg_name (i := 13) nd rfl (Or.inl rfl) (Or.inl rfl)) (dgs_cons (dg_name (i := 14) nd rfl (Or.inl rfl) (Or.inl rfl)) dgs_nil))) (dss_cons (ds_app 12 (de_var 10 rfl (Or.inl rfl)) rfl (Or.inl rfl))
  (dss_one (ds_set (i := 10) nd (de_tup (da_cons (de_2 r_add o_add (de_ix (de_var 10 rfl (Or.inl rfl)) de_int (fun _ _ => rfl)) (de_var 13 rfl (Or.inl rfl))) (da_cons (de_2 r_add o_add (de_ix (de_var 10 rfl (Or.inl rfl)) de_int (fun _ _ => rfl)) (de_var 14 rfl (Or.inl rfl))) da_nil))) rfl (Or.inl rfl)))))
  (dss_cons (ds_set (i := 15) nd (de_2 op_mod o_mod (de_ix (de_var 0 rfl (Or.inl rfl)) de_int (fun _ _ => rfl)) (de_callB c_len o_len B.len (by decide +kernel) (da_cons (de_var 12 rfl (Or.inl rfl)) da_nil))) rfl (Or.inl rfl))
  (dss_one (ds_ret (de_2 r_add o_add (de_sl (de_var 12 rfl (Or.inl rfl)) (dp_some (de_var 15 rfl (Or.inl rfl))) dp_none) (de_sl (de_var 12 rfl (Or.inl rfl)) dp_none (dp_some (de_var 15 rfl (Or.inl rfl)))))))))))))))))))
set_option maxHeartbeats 4000000 in
abbrev t__law_bent : Stmt := topS 15
theorem c__law_bent : FnScope ["_law_d", "_law_row", "_law_at", "_law_to", "_law_way_here", "_law_x", "_law_y"] ["_law_d", "_law_row"] (defScope t__law_bent) := ⟨rfl, rfl, rfl, by decide +kernel, rfl, by decide +kernel, by decide +kernel⟩
theorem ok__law_bent (D : DefF K mg "_law_bent" t__law_bent ["_law_d", "_law_row"]) (B : Blt mg)  : Ok P w K mg base 1 "_law_bent" ["_law_d", "_law_row"] f__law_bent := by
  refine ok_mk (k := 0) (N := ["_law_d", "_law_row", "_law_at", "_law_to", "_law_way_here", "_law_x", "_law_y"]) D c__law_bent fun f cdv A outer s H E hr => ?_
  have nd := c__law_bent.nd
  exact (dss_cons (ds_set (i := 2) nd (de_2 op_mod o_mod (de_ix (de_var 0 rfl (Or.inl rfl)) de_int (fun _ _ => rfl)) (de_callB c_len o_len B.len (by decide +kernel) (da_cons (de_var 1 rfl (Or.inl rfl)) da_nil))) rfl (Or.inl rfl))
  (dss_cons (ds_set (i := 3) nd (de_2 op_mod o_mod (de_ix (de_var 0 rfl (Or.inl rfl)) de_int (fun _ _ => rfl)) (de_callB c_len o_len B.len (by decide +kernel) (da_cons (de_var 1 rfl (Or.inl rfl)) da_nil))) rfl (Or.inl rfl))
  (dss_cons (ds_set (i := 4) nd (de_2 op_mod o_mod (de_ix (de_var 0 rfl (Or.inl rfl)) de_int (fun _ _ => rfl)) de_int) rfl (Or.inl rfl))
  (dss_cons (ds_asg (de_ix (de_var 1 rfl (Or.inl rfl)) (de_var 2 rfl (Or.inl rfl)) (fun _ _ => rfl)) (dg_tup rfl (dgs_cons (dg_name (i := 5) nd rfl (Or.inl rfl) (Or.inl rfl)) (dgs_cons (dg_name (i := 6) nd rfl (Or.inl rfl) (Or.inl rfl)) dgs_nil))))
  (dss_cons (ds_if (dt_cmp (op_eqD hr.units) o_eq (de_var 4 rfl (Or.inl rfl)) de_int (nomark _)) (dss_one (ds_ret (de_2 r_add o_add (de_sl (de_var 1 rfl (Or.inl rfl)) dp_none (dp_some (de_var 2 rfl (Or.inl rfl)))) (de_sl (de_var 1 rfl (Or.inl rfl)) (dp_some (de_2 r_add o_add (de_var 2 rfl (Or.inl rfl)) de_int)) dp_none)))) dss_nil)
  (dss_cons (ds_if (dt_cmp (op_eqD hr.units) o_eq (de_var 4 rfl (Or.inl rfl)) de_int (nomark _)) (dss_one (ds_ret (de_2 r_add o_add (de_2 r_add o_add (de_sl (de_var 1 rfl (Or.inl rfl)) dp_none (dp_some (de_var 2 rfl (Or.inl rfl)))) (de_lst (da_cons (de_ix (de_var 1 rfl (Or.inl rfl)) (de_var 3 rfl (Or.inl rfl)) (fun _ _ => rfl)) da_nil))) (de_sl (de_var 1 rfl (Or.inl rfl)) (dp_some (de_var 2 rfl (Or.inl rfl))) dp_none)))) dss_nil)
  (dss_cons (ds_if (dt_cmp (op_eqD hr.units) o_eq (de_var 4 rfl (Or.inl rfl)) de_int (nomark _)) (dss_one (ds_ret (de_rev (de_var 1 rfl (Or.inl rfl))))) dss_nil)
  (dss_cons (ds_if (dt_cmp (op_eqD hr.units) o_eq (de_var 4 rfl (Or.inl rfl)) de_int (nomark _)) (dss_one (ds_ret (de_2 r_add o_add (de_2 r_add o_add (de_sl (de_var 1 rfl (Or.inl rfl)) dp_none (dp_some (de_var 2 rfl (Or.inl rfl)))) (de_lst (da_cons (de_tup (da_cons (de_2 op_sub o_sub (de_2 r_add o_add (de_var 5 rfl (Or.inl rfl)) (de_2 op_mod o_mod (de_ix (de_var 0 rfl (Or.inl rfl)) de_int (fun _ _ => rfl)) de_int)) de_int) (da_cons (de_2 op_sub o_sub (de_2 r_add o_add (de_var 6 rfl (Or.inl rfl)) (de_2 op_mod o_mod (de_ix (de_var 0 rfl (Or.inl rfl)) de_int (fun _ _ => rfl)) de_int)) de_int) da_nil))) da_nil))) (de_sl (de_var 1 rfl (Or.inl rfl)) (dp_some (de_2 r_add o_add (de_var 2 rfl (Or.inl rfl)) de_int)) dp_none)))) dss_nil)
  (dss_cons (ds_if (dt_cmp (op_eqD hr.units) o_eq (de_var 4 rfl (Or.inl rfl)) de_int (nomark _)) (dss_one (ds_ret (de_2 r_add o_add (de_2 r_add o_add (de_sl (de_var 1 rfl (Or.inl rfl)) dp_none (dp_some (de_var 2 rfl (Or.inl rfl)))) (de_lst (da_cons (de_tup (da_cons (de_2 r_add o_add (de_var 5 rfl (Or.inl rfl)) (de_2 op_mod o_mod (de_ix (de_var 0 rfl (Or.inl rfl)) de_int (fun _ _ => rfl)) de_int)) (da_cons (de_2 op_sub o_sub (de_var 6 rfl (Or.inl rfl)) (de_2 op_mod o_mod (de_ix (de_var 0 rfl (Or.inl rfl)) de_int (fun _ _ => rfl)) de_int)) da_nil))) da_nil))) (de_sl (de_var 1 rfl (Or.inl rfl)) (dp_some (de_2 r_add o_add (de_var 2 rfl (Or.inl rfl)) de_int)) dp_none)))) dss_nil)
  (dss_cons (ds_if (dt_cmp (op_eqD hr.units) o_eq (de_var 4 rfl (Or.inl rfl)) de_int (nomark _)) (dss_one (ds_ret (de_2 r_add o_add (de_2 r_add o_add (de_sl (de_var 1 rfl (Or.inl rfl)) dp_none (dp_some (de_var 2 rfl (Or.inl rfl)))) (de_lst (da_cons (de_tup (da_cons (de_2 op_sub o_sub (de_2 op_mulW o_mul de_int (de_ix (de_ix (de_var 1 rfl (Or.inl rfl)) (de_2 op_sub o_sub (de_var 2 rfl (Or.inl rfl)) de_int) (fun _ _ => rfl)) de_int (fun _ _ => rfl))) (de_var 5 rfl (Or.inl rfl))) (da_cons (de_2 op_sub o_sub (de_2 op_mulW o_mul de_int (de_ix (de_ix (de_var 1 rfl (Or.inl rfl)) (de_2 op_sub o_sub (de_var 2 rfl (Or.inl rfl)) de_int) (fun _ _ => rfl)) de_int (fun _ _ => rfl))) (de_var 6 rfl (Or.inl rfl))) da_nil))) da_nil))) (de_sl (de_var 1 rfl (Or.inl rfl)) (dp_some (de_var 2 rfl (Or.inl rfl))) dp_none)))) dss_nil)
  (dss_cons (ds_if (dt_cmp (op_eqD hr.units) o_eq (de_var 4 rfl (Or.inl rfl)) de_int (nomark _)) (dss_one (ds_ret (de_sl (de_2 r_add o_add (de_stp (de_var 1 rfl (Or.inl rfl)) po_n) (de_stp (de_var 1 rfl (Or.inl rfl)) po_i)) dp_none (dp_some de_int)))) dss_nil)
  (dss_cons (ds_if (dt_cmp (op_eqD hr.units) o_eq (de_var 4 rfl (Or.inl rfl)) de_int (nomark _)) (dss_one (ds_ret (de_sl (de_2 r_add o_add (de_2 r_add o_add (de_var 1 rfl (Or.inl rfl)) (de_var 1 rfl (Or.inl rfl))) (de_var 1 rfl (Or.inl rfl))) dp_none (dp_some (de_2 r_add o_add de_int (de_2 op_mod o_mod (de_ix (de_var 0 rfl (Or.inl rfl)) de_int (fun _ _ => rfl)) de_int)))))) dss_nil)
  (dss_one (ds_retV 1 rfl (Or.inl rfl)))))))))))))))
set_option maxHeartbeats 4000000 in
abbrev t__law_power : Stmt := topS 8
theorem c__law_power : FnScope ["_law_number"] ["_law_number"] (defScope t__law_power) := ⟨rfl, rfl, rfl, by decide +kernel, rfl, by decide +kernel, by decide +kernel⟩
theorem ok__law_power (D : DefF K mg "_law_power" t__law_power ["_law_number"]) (B : Blt mg)  : Ok P w K mg base 1 "_law_power" ["_law_number"] f__law_power := by
  refine ok_mk (k := 0) (N := ["_law_number"]) D c__law_power fun f cdv A outer s H E hr => ?_
  have nd := c__law_power.nd
  exact (dss_one (ds_ret (de_2 op_mod o_mod (de_2 op_pow o_pow (de_2 op_mod o_mod (de_var 0 rfl (Or.inl rfl)) de_int) de_int) de_int)))
set_option maxHeartbeats 4000000 in
abbrev t__law_draws : Stmt := topS 9
theorem c__law_draws : FnScope ["_law_script", "_law_many", "_law_rows", "_law_mix", "_law_cell", "_law_rest"] ["_law_script", "_law_many"] (defScope t__law_draws) := ⟨rfl, rfl, rfl, by decide +kernel, rfl, by decide +kernel, by decide +kernel⟩
theorem ok__law_draws (D : DefF K mg "_law_draws" t__law_draws ["_law_script", "_law_many"]) (B : Blt mg) (C__law_power : Ok P w K mg base 1 "_law_power" ["_law_number"] f__law_power) : Ok P w K mg base 2 "_law_draws" ["_law_script", "_law_many"] f__law_draws := by
  refine ok_mk (k := 1) (N := ["_law_script", "_law_many", "_law_rows", "_law_mix", "_law_cell", "_law_rest"]) D c__law_draws fun f cdv A outer s H E hr => ?_
  have nd := c__law_draws.nd
  exact (dss_cons (ds_set (i := 2) nd (de_lst da_nil) rfl (Or.inl rfl))
  (dss_cons (ds_set (i := 3) nd de_int rfl (Or.inl rfl))
  (dss_cons (ds_for PassesOwn.never rfl (di_seq (de_sl (de_var 0 rfl (Or.inl rfl)) dp_none (dp_some de_int))) (dg_name (i := 4) nd rfl (Or.inl rfl) (Or.inl rfl)) (dss_cons (ds_set (i := 3) nd (de_2 op_mod o_mod (de_2 r_add o_add (de_2 op_mulW o_mul (de_var 3 rfl (Or.inl rfl)) de_int) (de_var 4 rfl (Or.inl rfl))) de_int) rfl (Or.inl rfl))
  (dss_cons (ds_set (i := 5) nd (de_callB call_abs o_abs B.abs (by decide +kernel) (da_cons (de_var 4 rfl (Or.inl rfl)) da_nil)) rfl (Or.inl rfl))
  (dss_cons (ds_if (dt_cmp op_lt o_cmpI (de_var 5 rfl (Or.inl rfl)) (de_2 op_pow o_pow de_int de_int) (nomark _)) (dss_cons (ds_app 2 (de_def (C__law_power.up (by decide)) hr (da_cons (de_2 r_add o_add (de_var 4 rfl (Or.inl rfl)) (de_2 op_mulW o_mul de_int (de_callB c_len o_len B.len (by decide +kernel) (da_cons (de_var 2 rfl (Or.inl rfl)) da_nil)))) da_nil) (xs_len xs_len0)) rfl (Or.inl rfl))
  (dss_one (ds_set (i := 5) nd de_int rfl (Or.inl rfl)))) dss_nil)
  (dss_one (ds_while PassesOwn.never (dw_pt (dw_and (dt_cmp op_gt o_cmpI (de_var 5 rfl (Or.inl rfl)) de_int (nomark _)) (dw_and1 (dt_cmp op_lt o_cmpI (de_callB c_len o_len B.len (by decide +kernel) (da_cons (de_var 2 rfl (Or.inl rfl)) da_nil)) (de_var 1 rfl (Or.inl rfl)) (nomark _))))) (dss_cons (ds_app 2 (de_2 op_mod o_mod (de_var 5 rfl (Or.inl rfl)) de_int) rfl (Or.inl rfl))
  (dss_one (ds_set (i := 5) nd (de_2 op_fdivW o_fdiv (de_var 5 rfl (Or.inl rfl)) de_int) rfl (Or.inl rfl))))))))))
  (dss_cons (ds_while PassesOwn.never (dt_cmp op_lt o_cmpI (de_callB c_len o_len B.len (by decide +kernel) (da_cons (de_var 2 rfl (Or.inl rfl)) da_nil)) (de_var 1 rfl (Or.inl rfl)) (nomark _)) (dss_cons (ds_set (i := 3) nd (de_2 op_mod o_mod (de_2 r_add o_add (de_2 op_mulW o_mul (de_var 3 rfl (Or.inl rfl)) de_int) de_int) de_int) rfl (Or.inl rfl))
  (dss_one (ds_app 2 (de_def (C__law_power.up (by decide)) hr (da_cons (de_var 3 rfl (Or.inl rfl)) da_nil) (xs_len xs_len0)) rfl (Or.inl rfl)))))
  (dss_one (ds_retV 2 rfl (Or.inl rfl)))))))
set_option maxHeartbeats 4000000 in
abbrev t__law_is_round : Stmt := topS 14
theorem c__law_is_round : FnScope ["_law_places", "_law_many", "_law_at", "_law_x", "_law_y", "_law_p", "_law_q", "_law_k", "_law_r", "_law_s"] ["_law_places"] (defScope t__law_is_round) := ⟨rfl, rfl, rfl, by decide +kernel, rfl, by decide +kernel, by decide +kernel⟩
theorem ok__law_is_round (D : DefF K mg "_law_is_round" t__law_is_round ["_law_places"]) (B : Blt mg)  : Ok P w K mg base 1 "_law_is_round" ["_law_places"] f__law_is_round := by
  refine ok_mk (k := 0) (N := ["_law_places", "_law_many", "_law_at", "_law_x", "_law_y", "_law_p", "_law_q", "_law_k", "_law_r", "_law_s"]) D c__law_is_round fun f cdv A outer s H E hr => ?_
  have nd := c__law_is_round.nd
  exact (dss_cons (ds_set (i := 1) nd (de_callB c_len o_len B.len (by decide +kernel) (da_cons (de_var 0 rfl (Or.inl rfl)) da_nil)) rfl (Or.inl rfl))
  (dss_cons (ds_if (dt_not (dt_chain op_le op_le de_int (de_var 1 rfl (Or.inl rfl)) de_int)) (dss_one (ds_ret de_bl)) dss_nil)
  (dss_cons (ds_for PassesOwn.never rfl (di_rng1 (ms := []) B.range (de_var 1 rfl (Or.inl rfl))) (dg_name (i := 2) nd rfl (Or.inl rfl) (Or.inl rfl)) (dss_cons (ds_asg (de_ix (de_var 0 rfl (Or.inl rfl)) (de_var 2 rfl (Or.inl rfl)) (fun _ _ => rfl)) (dg_tup rfl (dgs_cons (dg_name (i := 3) nd rfl (Or.inl rfl) (Or.inl rfl)) (dgs_cons (dg_name (i := 4) nd rfl (Or.inl rfl) (Or.inl rfl)) dgs_nil))))
  (dss_cons (ds_asg (de_ix (de_var 0 rfl (Or.inl rfl)) (de_2 r_add o_add (de_2 op_sub o_sub (de_var 2 rfl (Or.inl rfl)) (de_var 1 rfl (Or.inl rfl))) de_int) (fun _ _ => rfl)) (dg_tup rfl (dgs_cons (dg_name (i := 5) nd rfl (Or.inl rfl) (Or.inl rfl)) (dgs_cons (dg_name (i := 6) nd rfl (Or.inl rfl) (Or.inl rfl)) dgs_nil))))
  (dss_one (ds_for PassesOwn.never rfl (di_rng1 (ms := []) B.range (de_var 1 rfl (Or.inl rfl))) (dg_name (i := 7) nd rfl (Or.inl rfl) (Or.inl rfl)) (dss_one (ds_if (dw_pt (dw_and (dt_cmp (op_neD hr.units) o_ne (de_var 7 rfl (Or.inl rfl)) (de_var 2 rfl (Or.inl rfl)) (nomark _)) (dw_and1 (dt_cmp (op_neD hr.units) o_ne (de_var 7 rfl (Or.inl rfl)) (de_2 op_mod o_mod (de_2 r_add o_add (de_var 2 rfl (Or.inl rfl)) de_int) (de_var 1 rfl (Or.inl rfl))) (nomark _))))) (dss_cons (ds_asg (de_ix (de_var 0 rfl (Or.inl rfl)) (de_var 7 rfl (Or.inl rfl)) (fun _ _ => rfl)) (dg_tup rfl (dgs_cons (dg_name (i := 8) nd rfl (Or.inl rfl) (Or.inl rfl)) (dgs_cons (dg_name (i := 9) nd rfl (Or.inl rfl) (Or.inl rfl)) dgs_nil))))
  (dss_one (ds_if (dt_cmp op_le o_cmpI (de_2 op_sub o_sub (de_2 op_mulW o_mul (de_2 op_sub o_sub (de_var 5 rfl (Or.inl rfl)) (de_var 3 rfl (Or.inl rfl))) (de_2 op_sub o_sub (de_var 9 rfl (Or.inl rfl)) (de_var 4 rfl (Or.inl rfl)))) (de_2 op_mulW o_mul (de_2 op_sub o_sub (de_var 6 rfl (Or.inl rfl)) (de_var 4 rfl (Or.inl rfl))) (de_2 op_sub o_sub (de_var 8 rfl (Or.inl rfl)) (de_var 3 rfl (Or.inl rfl))))) de_int (nomark _)) (dss_one (ds_ret de_bl)) dss_nil))) dss_nil)))))))
  (dss_one (ds_ret de_bl)))))
set_option maxHeartbeats 4000000 in
abbrev t_stretch : Stmt := topS 5
theorem c_stretch : FnScope ["one", "other"] ["one", "other"] (defScope t_stretch) := ⟨rfl, rfl, rfl, by decide +kernel, rfl, by decide +kernel, by decide +kernel⟩
theorem ok_stretch (D : DefF K mg "stretch" t_stretch ["one", "other"]) (B : Blt mg)  : Ok P w K mg base 1 "stretch" ["one", "other"] f_stretch := by
  refine ok_mk (k := 0) (N := ["one", "other"]) D c_stretch fun f cdv A outer s H E hr => ?_
  have nd := c_stretch.nd
  exact (dss_one (ds_ret (de_tup (da_cons (de_2 op_sub o_sub (de_ix (de_var 1 rfl (Or.inl rfl)) de_int (fun _ _ => rfl)) (de_ix (de_var 0 rfl (Or.inl rfl)) de_int (fun _ _ => rfl))) (da_cons (de_2 op_sub o_sub (de_ix (de_var 1 rfl (Or.inl rfl)) de_int (fun _ _ => rfl)) (de_ix (de_var 0 rfl (Or.inl rfl)) de_int (fun _ _ => rfl))) da_nil)))))
set_option maxHeartbeats 4000000 in
abbrev t_turn : Stmt := topS 1
theorem c_turn : FnScope ["one", "other"] ["one", "other"] (defScope t_turn) := ⟨rfl, rfl, rfl, by decide +kernel, rfl, by decide +kernel, by decide +kernel⟩
theorem ok_turn (D : DefF K mg "turn" t_turn ["one", "other"]) (B : Blt mg)  : Ok P w K mg base 1 "turn" ["one", "other"] f_turn := by
  refine ok_mk (k := 0) (N := ["one", "other"]) D c_turn fun f cdv A outer s H E hr => ?_
  have nd := c_turn.nd
  exact (dss_one (ds_ret (de_2 op_sub o_sub (de_2 op_mulW o_mul (de_ix (de_var 0 rfl (Or.inl rfl)) de_int (fun _ _ => rfl)) (de_ix (de_var 1 rfl (Or.inl rfl)) de_int (fun _ _ => rfl))) (de_2 op_mulW o_mul (de_ix (de_var 0 rfl (Or.inl rfl)) de_int (fun _ _ => rfl)) (de_ix (de_var 1 rfl (Or.inl rfl)) de_int (fun _ _ => rfl))))))
set_option maxHeartbeats 4000000 in
abbrev t_is_bank : Stmt := topS 6
theorem c_is_bank : FnScope ["corners", "many", "at", "to", "third", "lead"] ["corners"] (defScope t_is_bank) := ⟨rfl, rfl, rfl, by decide +kernel, rfl, by decide +kernel, by decide +kernel⟩
theorem ok_is_bank (D : DefF K mg "is_bank" t_is_bank ["corners"]) (B : Blt mg) (C_stretch : Ok P w K mg base 1 "stretch" ["one", "other"] f_stretch) (C_turn : Ok P w K mg base 1 "turn" ["one", "other"] f_turn) (C_FEWEST : mg "FEWEST" = some (.int 3 t_FEWEST)) (C_MOST : mg "MOST" = some (.int 8 t_MOST)) : Ok P w K mg base 2 "is_bank" ["corners"] f_is_bank := by
  refine ok_mk (k := 1) (N := ["corners", "many", "at", "to", "third", "lead"]) D c_is_bank fun f cdv A outer s H E hr => ?_
  have nd := c_is_bank.nd
  exact (dss_cons (ds_set (i := 1) nd (de_callB c_len o_len B.len (by decide +kernel) (da_cons (de_var 0 rfl (Or.inl rfl)) da_nil)) rfl (Or.inl rfl))
  (dss_cons (ds_if (dw_pt (dw_or (dt_cmp op_lt o_cmpI (de_var 1 rfl (Or.inl rfl)) (de_gint rfl C_FEWEST ⟨_, rfl⟩) (nomark _)) (dw_or1 (dt_cmp op_gt o_cmpI (de_var 1 rfl (Or.inl rfl)) (de_gint rfl C_MOST ⟨_, rfl⟩) (nomark _))))) (dss_one (ds_ret de_bl)) dss_nil)
  (dss_cons (ds_for PassesOwn.never rfl (di_rng1 (ms := []) B.range (de_var 1 rfl (Or.inl rfl))) (dg_name (i := 2) nd rfl (Or.inl rfl) (Or.inl rfl)) (dss_cons (ds_set (i := 3) nd (de_2 op_mod o_mod (de_2 r_add o_add (de_var 2 rfl (Or.inl rfl)) de_int) (de_var 1 rfl (Or.inl rfl))) rfl (Or.inl rfl))
  (dss_one (ds_for PassesOwn.never rfl (di_rng1 (ms := []) B.range (de_var 1 rfl (Or.inl rfl))) (dg_name (i := 4) nd rfl (Or.inl rfl) (Or.inl rfl)) (dss_cons (ds_set (i := 5) nd (de_def (C_stretch.up (by decide)) hr (da_cons (de_ix (de_var 0 rfl (Or.inl rfl)) (de_var 2 rfl (Or.inl rfl)) (fun _ _ => rfl)) (da_cons (de_ix (de_var 0 rfl (Or.inl rfl)) (de_var 3 rfl (Or.inl rfl)) (fun _ _ => rfl)) da_nil)) (xs_len (xs_len xs_len0))) rfl (Or.inl rfl))
  (dss_one (ds_if (dw_pt (dw_and (dt_cmp (op_neD hr.units) o_ne (de_var 4 rfl (Or.inl rfl)) (de_var 2 rfl (Or.inl rfl)) (nomark _)) (dw_and (dt_cmp (op_neD hr.units) o_ne (de_var 4 rfl (Or.inl rfl)) (de_var 3 rfl (Or.inl rfl)) (nomark _)) (dw_and1 (dt_cmp op_le o_cmpI (de_def (C_turn.up (by decide)) hr (da_cons (de_var 5 rfl (Or.inl rfl)) (da_cons (de_def (C_stretch.up (by decide)) hr (da_cons (de_ix (de_var 0 rfl (Or.inl rfl)) (de_var 2 rfl (Or.inl rfl)) (fun _ _ => rfl)) (da_cons (de_ix (de_var 0 rfl (Or.inl rfl)) (de_var 4 rfl (Or.inl rfl)) (fun _ _ => rfl)) da_nil)) (xs_len (xs_len xs_len0))) da_nil)) (xs_len (xs_len xs_len0))) de_int (nomark _)))))) (dss_one (ds_ret de_bl)) dss_nil)))))))
  (dss_one (ds_ret de_bl)))))
set_option maxHeartbeats 4000000 in
abbrev t_law : Stmt := topS 16
theorem c_law : FnScope ["_law_script", "_law_some", "_law_row", "_law_k", "_law_handed", "_law_found"] ["_law_script"] (defScope t_law) := ⟨rfl, rfl, rfl, by decide +kernel, rfl, by decide +kernel, by decide +kernel⟩
theorem ok_law (D : DefF K mg "law" t_law ["_law_script"]) (B : Blt mg) (C__law_bank : Ok P w K mg base 3 "_law_bank" ["_law_d", "_law_wide"] f__law_bank) (C__law_bent : Ok P w K mg base 1 "_law_bent" ["_law_d", "_law_row"] f__law_bent) (C__law_draws : Ok P w K mg base 2 "_law_draws" ["_law_script", "_law_many"] f__law_draws) (C__law_is_round : Ok P w K mg base 1 "_law_is_round" ["_law_places"] f__law_is_round) (C_is_bank : Ok P w K mg base 2 "is_bank" ["corners"] f_is_bank) : Ok P w K mg base 4 "law" ["_law_script"] f_law := by
  refine ok_mk (k := 3) (N := ["_law_script", "_law_some", "_law_row", "_law_k", "_law_handed", "_law_found"]) D c_law fun f cdv A outer s H E hr => ?_
  have nd := c_law.nd
  exact (dss_cons (ds_set (i := 1) nd (de_def (C__law_draws.up (by decide)) hr (da_cons (de_var 0 rfl (Or.inl rfl)) (da_cons de_int da_nil)) (xs_len (xs_len xs_len0))) rfl (Or.inl rfl))
  (dss_cons (ds_set (i := 2) nd (de_def (C__law_bank.up (by decide)) hr (da_cons (de_var 1 rfl (Or.inl rfl)) (da_cons (de_ix (de_lst (da_cons de_int (da_cons de_int (da_cons de_int da_nil)))) (de_2 op_mod o_mod (de_ix (de_var 1 rfl (Or.inl rfl)) de_int (fun _ _ => rfl)) de_int) (fun _ _ => rfl)) da_nil)) (xs_len (xs_len xs_len0))) rfl (Or.inl rfl))
  (dss_cons (ds_for PassesOwn.never rfl (di_rng1 (ms := []) B.range (de_2 op_mod o_mod (de_ix (de_var 1 rfl (Or.inl rfl)) de_int (fun _ _ => rfl)) de_int)) (dg_name (i := 3) nd rfl (Or.inl rfl) (Or.inl rfl)) (dss_one (ds_if (dt_cmp op_gt o_cmpI (de_callB c_len o_len B.len (by decide +kernel) (da_cons (de_var 2 rfl (Or.inl rfl)) da_nil)) de_int (nomark _)) (dss_one (ds_set (i := 2) nd (de_sl (de_def (C__law_bent.up (by decide)) hr (da_cons (de_sl (de_var 1 rfl (Or.inl rfl)) (dp_some (de_2 r_add o_add de_int (de_2 op_mulW o_mul de_int (de_var 3 rfl (Or.inl rfl))))) dp_none) (da_cons (de_var 2 rfl (Or.inl rfl)) da_nil)) (xs_len (xs_len xs_len0))) dp_none (dp_some de_int)) rfl (Or.inl rfl))) dss_nil)))
  (dss_cons (ds_if (dt_cmp (op_eqD hr.units) o_eq (de_2 op_mod o_mod (de_2 op_fdivW o_fdiv (de_ix (de_var 1 rfl (Or.inl rfl)) de_int (fun _ _ => rfl)) de_int) de_int) de_int (nomark _)) (dss_one (ds_set (i := 2) nd (de_sl (de_var 2 rfl (Or.inl rfl)) dp_none (dp_some (de_2 op_mod o_mod (de_ix (de_var 1 rfl (Or.inl rfl)) de_int (fun _ _ => rfl)) de_int))) rfl (Or.inl rfl))) dss_nil)
  (dss_cons (ds_set (i := 4) nd (de_callTy (c_listE rfl) o_listE B.list (by decide +kernel) (da_cons (de_var 2 rfl (Or.inl rfl)) da_nil)) rfl (Or.inl rfl))
  (dss_cons (ds_set (i := 5) nd (de_def (C_is_bank.up (by decide)) hr (da_cons (de_var 4 rfl (Or.inl rfl)) da_nil) (xs_len xs_len0)) rfl (Or.inl rfl))
  (dss_one (ds_ret (de_and (de_isi (T := Ty5.bool) (de_var 5 rfl (Or.inl rfl)) B.isinstance (by decide +kernel) B.bool (by decide +kernel)) (de_and (de_cmp (op_eqD hr.units) o_eq (de_var 4 rfl (Or.inl rfl)) (de_var 2 rfl (Or.inl rfl)) (nomark _)) (de_one (de_cmp (op_eqD hr.units) o_eq (de_var 5 rfl (Or.inl rfl)) (de_def (C__law_is_round.up (by decide)) hr (da_cons (de_var 2 rfl (Or.inl rfl)) da_nil) (xs_len xs_len0)) (nomark _)))))))))))))
set_option maxHeartbeats 4000000 in
theorem all_ok {P : Program} {w : World} {K : PySem.W.Frag} {mg : Str → Option Value} {h : Heap} (X : K.In h) (G : h.Ns mainGlobals mg)
   (z0 : PySem.W.nsIn K mainGlobals "abs" = some none) (z1 : PySem.W.nsIn K mainGlobals "all" = some none) (z2 : PySem.W.nsIn K mainGlobals "any" = some none) (z3 : PySem.W.nsIn K mainGlobals "enumerate" = some none) (z4 : PySem.W.nsIn K mainGlobals "int" = some none) (z5 : PySem.W.nsIn K mainGlobals "isinstance" = some none) (z6 : PySem.W.nsIn K mainGlobals "len" = some none) (z7 : PySem.W.nsIn K mainGlobals "list" = some none) (z8 : PySem.W.nsIn K mainGlobals "max" = some none) (z9 : PySem.W.nsIn K mainGlobals "min" = some none) (z10 : PySem.W.nsIn K mainGlobals "range" = some none) (z11 : PySem.W.nsIn K mainGlobals "zip" = some none) (z12 : PySem.W.nsIn K mainGlobals "bool" = some none) (z13 : PySem.W.nsIn K mainGlobals "tuple" = some none) (z14 : PySem.W.nsIn K mainGlobals "str" = some none) (z15 : PySem.W.nsIn K mainGlobals "sorted" = some none) (z16 : PySem.W.nsIn K mainGlobals "sum" = some none) (z17 : PySem.W.nsIn K mainGlobals "dict" = some none)
   {u_FEWEST : Tok} (k_FEWEST : PySem.W.nsIn K mainGlobals "FEWEST" = some (some (.int 3 u_FEWEST)))
   {u_MOST : Tok} (k_MOST : PySem.W.nsIn K mainGlobals "MOST" = some (some (.int 8 u_MOST)))
   {f0 : Addr} {oc0 : Value} {od0 an0 : Option Addr} {sl0 : Array (Option Value)} {kV0 dc0 pm0 cd0 ct0 : Value}
   (a0 : PySem.W.nsIn K mainGlobals "_law_turned" = some (some (.ref f0))) (l0 : K.lookup f0 = some ⟨oc0, od0, .func (PySem.W.fnOf "_law_turned" "_law_turned" (defArgs t__law_turned) (defBody t__law_turned) (defScope t__law_turned) .none kV0 dc0 pm0 an0 cd0 ct0), sl0⟩) (c0 : PySem.W.codeIn K cd0 "_law_turned" = true) (k0 : PySem.W.keepIn K (.ref f0) = true)
   {f1 : Addr} {oc1 : Value} {od1 an1 : Option Addr} {sl1 : Array (Option Value)} {kV1 dc1 pm1 cd1 ct1 : Value}
   (a1 : PySem.W.nsIn K mainGlobals "_law_way" = some (some (.ref f1))) (l1 : K.lookup f1 = some ⟨oc1, od1, .func (PySem.W.fnOf "_law_way" "_law_way" (defArgs t__law_way) (defBody t__law_way) (defScope t__law_way) .none kV1 dc1 pm1 an1 cd1 ct1), sl1⟩) (c1 : PySem.W.codeIn K cd1 "_law_way" = true) (k1 : PySem.W.keepIn K (.ref f1) = true)
   {f2 : Addr} {oc2 : Value} {od2 an2 : Option Addr} {sl2 : Array (Option Value)} {kV2 dc2 pm2 cd2 ct2 : Value}
   (a2 : PySem.W.nsIn K mainGlobals "_law_left_pair" = some (some (.ref f2))) (l2 : K.lookup f2 = some ⟨oc2, od2, .func (PySem.W.fnOf "_law_left_pair" "_law_left_pair" (defArgs t__law_left_pair) (defBody t__law_left_pair) (defScope t__law_left_pair) .none kV2 dc2 pm2 an2 cd2 ct2), sl2⟩) (c2 : PySem.W.codeIn K cd2 "_law_left_pair" = true) (k2 : PySem.W.keepIn K (.ref f2) = true)
   {f3 : Addr} {oc3 : Value} {od3 an3 : Option Addr} {sl3 : Array (Option Value)} {kV3 dc3 pm3 cd3 ct3 : Value}
   (a3 : PySem.W.nsIn K mainGlobals "_law_bank" = some (some (.ref f3))) (l3 : K.lookup f3 = some ⟨oc3, od3, .func (PySem.W.fnOf "_law_bank" "_law_bank" (defArgs t__law_bank) (defBody t__law_bank) (defScope t__law_bank) .none kV3 dc3 pm3 an3 cd3 ct3), sl3⟩) (c3 : PySem.W.codeIn K cd3 "_law_bank" = true) (k3 : PySem.W.keepIn K (.ref f3) = true)
   {f4 : Addr} {oc4 : Value} {od4 an4 : Option Addr} {sl4 : Array (Option Value)} {kV4 dc4 pm4 cd4 ct4 : Value}
   (a4 : PySem.W.nsIn K mainGlobals "_law_bent" = some (some (.ref f4))) (l4 : K.lookup f4 = some ⟨oc4, od4, .func (PySem.W.fnOf "_law_bent" "_law_bent" (defArgs t__law_bent) (defBody t__law_bent) (defScope t__law_bent) .none kV4 dc4 pm4 an4 cd4 ct4), sl4⟩) (c4 : PySem.W.codeIn K cd4 "_law_bent" = true) (k4 : PySem.W.keepIn K (.ref f4) = true)
   {f5 : Addr} {oc5 : Value} {od5 an5 : Option Addr} {sl5 : Array (Option Value)} {kV5 dc5 pm5 cd5 ct5 : Value}
   (a5 : PySem.W.nsIn K mainGlobals "_law_power" = some (some (.ref f5))) (l5 : K.lookup f5 = some ⟨oc5, od5, .func (PySem.W.fnOf "_law_power" "_law_power" (defArgs t__law_power) (defBody t__law_power) (defScope t__law_power) .none kV5 dc5 pm5 an5 cd5 ct5), sl5⟩) (c5 : PySem.W.codeIn K cd5 "_law_power" = true) (k5 : PySem.W.keepIn K (.ref f5) = true)
   {f6 : Addr} {oc6 : Value} {od6 an6 : Option Addr} {sl6 : Array (Option Value)} {kV6 dc6 pm6 cd6 ct6 : Value}
   (a6 : PySem.W.nsIn K mainGlobals "_law_draws" = some (some (.ref f6))) (l6 : K.lookup f6 = some ⟨oc6, od6, .func (PySem.W.fnOf "_law_draws" "_law_draws" (defArgs t__law_draws) (defBody t__law_draws) (defScope t__law_draws) .none kV6 dc6 pm6 an6 cd6 ct6), sl6⟩) (c6 : PySem.W.codeIn K cd6 "_law_draws" = true) (k6 : PySem.W.keepIn K (.ref f6) = true)
   {f7 : Addr} {oc7 : Value} {od7 an7 : Option Addr} {sl7 : Array (Option Value)} {kV7 dc7 pm7 cd7 ct7 : Value}
   (a7 : PySem.W.nsIn K mainGlobals "_law_is_round" = some (some (.ref f7))) (l7 : K.lookup f7 = some ⟨oc7, od7, .func (PySem.W.fnOf "_law_is_round" "_law_is_round" (defArgs t__law_is_round) (defBody t__law_is_round) (defScope t__law_is_round) .none kV7 dc7 pm7 an7 cd7 ct7), sl7⟩) (c7 : PySem.W.codeIn K cd7 "_law_is_round" = true) (k7 : PySem.W.keepIn K (.ref f7) = true)
   {f8 : Addr} {oc8 : Value} {od8 an8 : Option Addr} {sl8 : Array (Option Value)} {kV8 dc8 pm8 cd8 ct8 : Value}
   (a8 : PySem.W.nsIn K mainGlobals "stretch" = some (some (.ref f8))) (l8 : K.lookup f8 = some ⟨oc8, od8, .func (PySem.W.fnOf "stretch" "stretch" (defArgs t_stretch) (defBody t_stretch) (defScope t_stretch) .none kV8 dc8 pm8 an8 cd8 ct8), sl8⟩) (c8 : PySem.W.codeIn K cd8 "stretch" = true) (k8 : PySem.W.keepIn K (.ref f8) = true)
   {f9 : Addr} {oc9 : Value} {od9 an9 : Option Addr} {sl9 : Array (Option Value)} {kV9 dc9 pm9 cd9 ct9 : Value}
   (a9 : PySem.W.nsIn K mainGlobals "turn" = some (some (.ref f9))) (l9 : K.lookup f9 = some ⟨oc9, od9, .func (PySem.W.fnOf "turn" "turn" (defArgs t_turn) (defBody t_turn) (defScope t_turn) .none kV9 dc9 pm9 an9 cd9 ct9), sl9⟩) (c9 : PySem.W.codeIn K cd9 "turn" = true) (k9 : PySem.W.keepIn K (.ref f9) = true)
   {f10 : Addr} {oc10 : Value} {od10 an10 : Option Addr} {sl10 : Array (Option Value)} {kV10 dc10 pm10 cd10 ct10 : Value}
   (a10 : PySem.W.nsIn K mainGlobals "is_bank" = some (some (.ref f10))) (l10 : K.lookup f10 = some ⟨oc10, od10, .func (PySem.W.fnOf "is_bank" "is_bank" (defArgs t_is_bank) (defBody t_is_bank) (defScope t_is_bank) .none kV10 dc10 pm10 an10 cd10 ct10), sl10⟩) (c10 : PySem.W.codeIn K cd10 "is_bank" = true) (k10 : PySem.W.keepIn K (.ref f10) = true)
   {f11 : Addr} {oc11 : Value} {od11 an11 : Option Addr} {sl11 : Array (Option Value)} {kV11 dc11 pm11 cd11 ct11 : Value}
   (a11 : PySem.W.nsIn K mainGlobals "law" = some (some (.ref f11))) (l11 : K.lookup f11 = some ⟨oc11, od11, .func (PySem.W.fnOf "law" "law" (defArgs t_law) (defBody t_law) (defScope t_law) .none kV11 dc11 pm11 an11 cd11 ct11), sl11⟩) (c11 : PySem.W.codeIn K cd11 "law" = true) (k11 : PySem.W.keepIn K (.ref f11) = true)
   (base : Heap) : Ok P w K mg base 4 "law" ["_law_script"] f_law := by
  have B : Blt mg := ⟨PySem.W.mg_none_of X G z0, PySem.W.mg_none_of X G z1, PySem.W.mg_none_of X G z2, PySem.W.mg_none_of X G z3, PySem.W.mg_none_of X G z4, PySem.W.mg_none_of X G z5, PySem.W.mg_none_of X G z6, PySem.W.mg_none_of X G z7, PySem.W.mg_none_of X G z8, PySem.W.mg_none_of X G z9, PySem.W.mg_none_of X G z10, PySem.W.mg_none_of X G z11, PySem.W.mg_none_of X G z12, PySem.W.mg_none_of X G z13, PySem.W.mg_none_of X G z14, PySem.W.mg_none_of X G z15, PySem.W.mg_none_of X G z16, PySem.W.mg_none_of X G z17⟩
  have C_FEWEST : mg "FEWEST" = some (.int 3 u_FEWEST) := PySem.W.mg_of X G k_FEWEST
  have C_MOST : mg "MOST" = some (.int 8 u_MOST) := PySem.W.mg_of X G k_MOST
  have d__law_turned : DefF K mg "_law_turned" t__law_turned ["_law_one", "_law_other"] := def_mk X G a0 l0 c0 k0 fun us hl => match us, hl with | [_, _], _ => rfl
  have d__law_way : DefF K mg "_law_way" t__law_way ["_law_one", "_law_two", "_law_wide"] := def_mk X G a1 l1 c1 k1 fun us hl => match us, hl with | [_, _, _], _ => rfl
  have d__law_left_pair : DefF K mg "_law_left_pair" t__law_left_pair ["_law_d", "_law_wide"] := def_mk X G a2 l2 c2 k2 fun us hl => match us, hl with | [_, _], _ => rfl
  have d__law_bank : DefF K mg "_law_bank" t__law_bank ["_law_d", "_law_wide"] := def_mk X G a3 l3 c3 k3 fun us hl => match us, hl with | [_, _], _ => rfl
  have d__law_bent : DefF K mg "_law_bent" t__law_bent ["_law_d", "_law_row"] := def_mk X G a4 l4 c4 k4 fun us hl => match us, hl with | [_, _], _ => rfl
  have d__law_power : DefF K mg "_law_power" t__law_power ["_law_number"] := def_mk X G a5 l5 c5 k5 fun us hl => match us, hl with | [_], _ => rfl
  have d__law_draws : DefF K mg "_law_draws" t__law_draws ["_law_script", "_law_many"] := def_mk X G a6 l6 c6 k6 fun us hl => match us, hl with | [_, _], _ => rfl
  have d__law_is_round : DefF K mg "_law_is_round" t__law_is_round ["_law_places"] := def_mk X G a7 l7 c7 k7 fun us hl => match us, hl with | [_], _ => rfl
  have d_stretch : DefF K mg "stretch" t_stretch ["one", "other"] := def_mk X G a8 l8 c8 k8 fun us hl => match us, hl with | [_, _], _ => rfl
  have d_turn : DefF K mg "turn" t_turn ["one", "other"] := def_mk X G a9 l9 c9 k9 fun us hl => match us, hl with | [_, _], _ => rfl
  have d_is_bank : DefF K mg "is_bank" t_is_bank ["corners"] := def_mk X G a10 l10 c10 k10 fun us hl => match us, hl with | [_], _ => rfl
  have d_law : DefF K mg "law" t_law ["_law_script"] := def_mk X G a11 l11 c11 k11 fun us hl => match us, hl with | [_], _ => rfl
  have C__law_turned := ok__law_turned (P := P) (w := w) (base := base) d__law_turned B 
  have C__law_way := ok__law_way (P := P) (w := w) (base := base) d__law_way B 
  have C__law_left_pair := ok__law_left_pair (P := P) (w := w) (base := base) d__law_left_pair B C__law_turned C__law_way
  have C__law_bank := ok__law_bank (P := P) (w := w) (base := base) d__law_bank B C__law_left_pair
  have C__law_bent := ok__law_bent (P := P) (w := w) (base := base) d__law_bent B 
  have C__law_power := ok__law_power (P := P) (w := w) (base := base) d__law_power B 
  have C__law_draws := ok__law_draws (P := P) (w := w) (base := base) d__law_draws B C__law_power
  have C__law_is_round := ok__law_is_round (P := P) (w := w) (base := base) d__law_is_round B 
  have C_stretch := ok_stretch (P := P) (w := w) (base := base) d_stretch B 
  have C_turn := ok_turn (P := P) (w := w) (base := base) d_turn B 
  have C_is_bank := ok_is_bank (P := P) (w := w) (base := base) d_is_bank B C_stretch C_turn C_FEWEST C_MOST
  have C_law := ok_law (P := P) (w := w) (base := base) d_law B C__law_bank C__law_bent C__law_draws C__law_is_round C_is_bank
  exact C_law
end
end Wk


end
open PySem PySem.W PyProof.Rows
set_option maxRecDepth 100000 in
set_option maxHeartbeats 0 in
theorem PySem.Challenge.cw_seamarks_k23_banks_or_not_holds : PySem.Challenge.rw_seamarks_k23_banks_or_not.Holds := by
  w_on; o_law; k_head; (case hw => w_witness2)
  k_fill
  refine Dv.end_law (l := PySem.Challenge.rw_seamarks_k23_banks_or_not) (k := 4) (x := "_law_script") (fn := Sm.f_law) rfl rfl ⟨rfl, by decide, by decide⟩ (fun w h Y => PySem.W.kIn_of Y) ?F Sm.law_true
  case F =>
    intro w mg h KX G base
    refine' Wk.all_ok KX G ?z0 ?z1 ?z2 ?z3 ?z4 ?z5 ?z6 ?z7 ?z8 ?z9 ?z10 ?z11 ?z12 ?z13 ?z14 ?z15 ?z16 ?z17 ?k_FEWEST ?k_MOST ?a0 ?l0 ?c0 ?k0 ?a1 ?l1 ?c1 ?k1 ?a2 ?l2 ?c2 ?k2 ?a3 ?l3 ?c3 ?k3 ?a4 ?l4 ?c4 ?k4 ?a5 ?l5 ?c5 ?k5 ?a6 ?l6 ?c6 ?k6 ?a7 ?l7 ?c7 ?k7 ?a8 ?l8 ?c8 ?k8 ?a9 ?l9 ?c9 ?k9 ?a10 ?l10 ?c10 ?k10 ?a11 ?l11 ?c11 ?k11 base
    (case z0 => k_is); (case z1 => k_is); (case z2 => k_is); (case z3 => k_is); (case z4 => k_is); (case z5 => k_is)
    (case z6 => k_is); (case z7 => k_is); (case z8 => k_is); (case z9 => k_is); (case z10 => k_is); (case z11 => k_is)
    (case z12 => k_is); (case z13 => k_is); (case z14 => k_is); (case z15 => k_is); (case z16 => k_is); (case z17 => k_is)
    (case k_FEWEST => k_is); (case k_MOST => k_is); (case a0 => k_is); (case l0 => k_is); (case c0 => k_is); (case k0 => k_is)
    (case a1 => k_is); (case l1 => k_is); (case c1 => k_is); (case k1 => k_is); (case a2 => k_is); (case l2 => k_is)
    (case c2 => k_is); (case k2 => k_is); (case a3 => k_is); (case l3 => k_is); (case c3 => k_is); (case k3 => k_is)
    (case a4 => k_is); (case l4 => k_is); (case c4 => k_is); (case k4 => k_is); (case a5 => k_is); (case l5 => k_is)
    (case c5 => k_is); (case k5 => k_is); (case a6 => k_is); (case l6 => k_is); (case c6 => k_is); (case k6 => k_is)
    (case a7 => k_is); (case l7 => k_is); (case c7 => k_is); (case k7 => k_is); (case a8 => k_is); (case l8 => k_is)
    (case c8 => k_is); (case k8 => k_is); (case a9 => k_is); (case l9 => k_is); (case c9 => k_is); (case k9 => k_is)
    (case a10 => k_is); (case l10 => k_is); (case c10 => k_is); (case k10 => k_is); (case a11 => k_is); (case l11 => k_is)
    (case c11 => k_is); (case k11 => k_is)


