import PyProof.Rows.All
import Wide.All
import OpenK.AllK
import Wide.FinOn
import HandS.ForMost
import HandS.Wide
import HandS.Flow
import HandS.IsInst
import HandS.TupAny
import HandS.Deep
import HandS.Zip
import HandS.Style
import PySem.Str
import PySem.Sem
import KE.SortData
import HandS.More
import HandS.Conv
import HandS.TupSets
import HandS.Dict
import HandS.NoneIn
import KE.GoesMore
import KE.GoesZip
import KE.DataMinMax
import PySem.Challenge.RW_seamarks_k20_choices_told
section
set_option Elab.async false
set_option linter.all false
set_option maxRecDepth 100000
/-! Dv: values without addresses (O), and what each construct of the text makes of them. No program, no heap. -/
namespace Dv
open PySem (Str)
abbrev Key := Sum Int Str
/-- a value: own tells whether the object belongs to its holder alone -/
inductive O where
  | non | bl (b : Bool) | int (i : Int) | str (x : Str)
  /-- the script -/
  | scr (ns : List Int)
  | tup (xs : List O)
  /-- a tuple of whole numbers that the program's top has made -/
  | kt (ns : List Int)
  /-- a reference held apart: the list itself is in the keeping of a loop -/
  | anc (a : Nat)
  | lst (own : Bool) (xs : List O)
  | dK (own : Bool) (ks : List Key) (vs : List O)
  | dT (own : Bool) (ks : List (List Key)) (vs : List O)
  deriving Inhabited
abbrev Sl := List (Option O)
abbrev SE := Sl → Option O
abbrev SEs := Sl → Option (List O)
abbrev ST := Sl → Option Bool
/-- what a statement does -/
inductive Fl where
  | nx (τ : Sl) | rt (o : O) | bk (τ : Sl) | ct (τ : Sl)
abbrev SS := Sl → Option Fl
mutual
/-- nothing of it is held alone -/
@[simp] def frz : O → O
  | .tup xs => .tup (frzs xs)
  | .lst _ xs => .lst false (frzs xs)
  | .dK _ ks vs => .dK false ks (frzs vs)
  | .dT _ ks vs => .dT false ks (frzs vs)
  | o => o
@[simp] def frzs : List O → List O
  | [] => []
  | x :: xs => frz x :: frzs xs
end
mutual
/-- no object in it that may be changed -/
@[simp] def flat : O → Bool
  | .tup xs => flats xs
  | .lst _ _ => false
  | .dK _ _ _ => false
  | .dT _ _ _ => false
  | _ => true
@[simp] def flats : List O → Bool
  | [] => true
  | x :: xs => flat x && flats xs
end
mutual
/-- each object in it that may be changed is its own -/
@[simp] def clean : O → Bool
  | .tup xs => cleans xs
  | .lst own xs => own && cleans xs
  | .dK own _ vs => own && cleans vs
  | .dT own _ vs => own && cleans vs
  | _ => true
@[simp] def cleans : List O → Bool
  | [] => true
  | x :: xs => clean x && cleans xs
end
theorem frzs_eq : ∀ xs : List O, frzs xs = xs.map frz
  | [] => rfl
  | x :: xs => by show frz x :: frzs xs = _; rw [frzs_eq xs]; rfl
theorem flats_eq : ∀ xs : List O, flats xs = xs.all flat
  | [] => rfl
  | x :: xs => by show (flat x && flats xs) = _; rw [flats_eq xs]; rfl
mutual
theorem frz_flat : ∀ {o : O}, flat o = true → frz o = o
  | .non, _ => rfl
  | .bl _, _ => rfl
  | .int _, _ => rfl
  | .str _, _ => rfl
  | .scr _, _ => rfl
  | .anc _, _ => rfl
  | .kt _, _ => rfl
  | .tup xs, h => by show O.tup (frzs xs) = _; rw [frzs_flat h]
  | .lst _ _, h => nomatch h
  | .dK _ _ _, h => nomatch h
  | .dT _ _ _, h => nomatch h
theorem frzs_flat : ∀ {xs : List O}, flats xs = true → frzs xs = xs
  | [], _ => rfl
  | x :: xs, h => by
    have h' : (flat x && flats xs) = true := h
    rw [Bool.and_eq_true] at h'
    show frz x :: frzs xs = _
    rw [frz_flat h'.1, frzs_flat h'.2]
end
/-! ### the slots -/
@[simp] def get (i : Nat) : SE := fun τ => match τ[i]? with
  | some (some o) => some o
  | _ => none
/-- read: a view -/
@[simp] def xV (i : Nat) : SE := fun τ => (get i τ).map frz
@[simp] def xC (o : O) : SE := fun _ => some o
/-- the slots at is are no longer held alone -/
@[simp] def frzSlot : Option O → Option O
  | some o => some (frz o)
  | none => none
@[simp] def frz1 (i : Nat) (τ : Sl) : Sl := match τ[i]? with
  | some s => τ.set i (frzSlot s)
  | none => τ
@[simp] def frzAt : List Nat → Sl → Sl
  | [], τ => τ
  | i :: is, τ => frzAt is (frz1 i τ)
/-- the value o goes into slot i, made by reading the slots ns -/
@[simp] def put (ns : List Nat) (i : Nat) (o : O) (τ : Sl) : Sl := (if clean o then τ else frzAt ns τ).set i (some o)
/-! ### numbers -/
def mulOk (i j : Int) : Bool := decide (i.natAbs.log2 + j.natAbs.log2 < 1000000)
def divOk (j : Int) : Bool := decide (0 < j) && decide (j.natAbs.log2 < 9000)
def powOk (i j : Int) : Bool := decide (0 ≤ j) && decide (j ≤ 1000) && decide (i.natAbs < 2 ^ 64)
def sLine : Nat := 16777216
@[simp] def addD : O → O → Option O
  | .int i, .int j => some (.int (i + j))
  | .int i, .bl b => some (.int (i + (if b then 1 else 0)))
  | .tup xs, .tup ys => if xs.length + ys.length ≤ sLine then some (.tup (xs ++ ys)) else none
  | .lst _ xs, .lst _ ys => if xs.length + ys.length ≤ sLine then some (.lst true (frzs xs ++ frzs ys)) else none
  | .str x, .str y => if x.length + y.length ≤ sLine then some (.str (x ++ y)) else none
  | _, _ => none
@[simp] def subD : O → O → Option O
  | .int i, .int j => some (.int (i - j))
  | _, _ => none
@[simp] def mulD : O → O → Option O
  | .int i, .int j => if mulOk i j then some (.int (i * j)) else none
  | _, _ => none
@[simp] def fdivD : O → O → Option O
  | .int i, .int j => if divOk j then some (.int (i / j)) else none
  | _, _ => none
@[simp] def modD : O → O → Option O
  | .int i, .int j => if 0 < j then some (.int (i % j)) else none
  | _, _ => none
@[simp] def powD : O → O → Option O
  | .int i, .int j => if powOk i j then some (.int (i ^ j.toNat)) else none
  | _, _ => none
@[simp] def negD : O → Option O
  | .int i => some (.int (-i))
  | _ => none
@[simp] def x2 (f : O → O → Option O) (a b : SE) : SE := fun τ => (a τ).bind fun x => (b τ).bind fun y => f x y
@[simp] def x1 (f : O → Option O) (a : SE) : SE := fun τ => (a τ).bind f
/-! ### lists of expressions -/
@[simp] def xsN : SEs := fun _ => some []
@[simp] def xsC (a : SE) (r : SEs) : SEs := fun τ => (a τ).bind fun x => (r τ).bind fun xs => some (x :: xs)
@[simp] def xTup (r : SEs) : SE := fun τ => (r τ).bind fun xs => if xs.length ≤ sLine then some (.tup xs) else none
@[simp] def xLst (r : SEs) : SE := fun τ => (r τ).bind fun xs => if xs.length ≤ sLine then some (.lst true xs) else none
@[simp] def xCall (f : List O → Option O) (r : SEs) : SE := fun τ => (r τ).bind fun xs => f (frzs xs)
/-! ### tests -/
@[simp] def asB : O → Option Bool
  | .bl b => some b
  | _ => none
@[simp] def tOf (a : SE) : ST := fun τ => (a τ).bind asB
@[simp] def tNot (a : ST) : ST := fun τ => (a τ).bind fun b => some (!b)
@[simp] def tAnd (a b : ST) : ST := fun τ => (a τ).bind fun x => if x then b τ else some false
@[simp] def tOr (a b : ST) : ST := fun τ => (a τ).bind fun x => if x then some true else b τ
@[simp] def xB (a : ST) : SE := fun τ => (a τ).bind fun b => some (.bl b)
@[simp] def xIf (c : ST) (a b : SE) : SE := fun τ => (c τ).bind fun x => if x then a τ else b τ
@[simp] def cmpI (p : Int → Int → Bool) : O → O → Option O
  | .int i, .int j => some (.bl (p i j))
  | _, _ => none
@[simp] def ltD (x y : O) : Option O := cmpI (fun i j => decide (i < j)) x y
@[simp] def leD (x y : O) : Option O := cmpI (fun i j => decide (i ≤ j)) x y
@[simp] def gtD (x y : O) : Option O := cmpI (fun i j => decide (j < i)) x y
@[simp] def geD (x y : O) : Option O := cmpI (fun i j => decide (j ≤ i)) x y
/-- and, or, not as values -/
@[simp] def xAnd (a b : SE) : SE := fun τ => (tOf a τ).bind fun k => if k then b τ else some (.bl false)
@[simp] def xOr (a b : SE) : SE := fun τ => (tOf a τ).bind fun k => if k then some (.bl true) else b τ
@[simp] def xNot (a : SE) : SE := fun τ => (tOf a τ).bind fun k => some (.bl (!k))
/-! ### statements -/
@[simp] def sN : SS := fun τ => some (.nx τ)
@[simp] def sSeq (a b : SS) : SS := fun τ => match a τ with
  | some (.nx τ') => b τ'
  | r => r
@[simp] def sSet (ns : List Nat) (i : Nat) (a : SE) : SS := fun τ => (a τ).bind fun o => some (.nx (put ns i o τ))
@[simp] def sRet (a : SE) : SS := fun τ => (a τ).bind fun o => some (.rt o)
/-- return of a name: it goes with all that it holds alone -/
@[simp] def sRetV (i : Nat) : SS := fun τ => (get i τ).bind fun o => some (.rt o)
@[simp] def sIf (c : ST) (a b : SS) : SS := fun τ => (c τ).bind fun x => if x then a τ else b τ
@[simp] def sBk : SS := fun τ => some (.bk τ)
@[simp] def sCt : SS := fun τ => some (.ct τ)
/-- n turns at most -/
def whlN (c : ST) (b : SS) : Nat → SS
  | 0, _ => none
  | n + 1, τ => match c τ with
    | none => none
    | some false => some (.nx τ)
    | some true => match b τ with
      | some (.nx τ') => whlN c b n τ'
      | some (.ct τ') => whlN c b n τ'
      | some (.bk τ') => some (.nx τ')
      | some (.rt o) => some (.rt o)
      | none => none
open Classical in
noncomputable def sWhl (c : ST) (b : SS) : SS := fun τ => if h : ∃ r n, whlN c b n τ = some r then some h.choose else none
theorem whlN_mono (c : ST) (b : SS) : ∀ (n : Nat) (τ : Sl) (r : Fl), whlN c b n τ = some r → whlN c b (n + 1) τ = some r
  | 0, _, _, h => nomatch h
  | n + 1, τ, r, h => by
    unfold whlN at h ⊢
    cases hc : c τ with
    | none => rw [hc] at h; exact nomatch h
    | some x =>
      rw [hc] at h
      cases x with
      | false => exact h
      | true =>
        simp only at h ⊢
        cases hb : b τ with
        | none => rw [hb] at h; exact nomatch h
        | some f =>
          rw [hb] at h
          cases f with
          | nx τ' => exact whlN_mono c b n τ' r h
          | ct τ' => exact whlN_mono c b n τ' r h
          | bk τ' => exact h
          | rt o => exact h
theorem whlN_le (c : ST) (b : SS) {n : Nat} {τ : Sl} {r : Fl} (h : whlN c b n τ = some r) : ∀ k, whlN c b (n + k) τ = some r
  | 0 => h
  | k + 1 => whlN_mono c b (n + k) τ r (whlN_le c b h k)
theorem whlN_det (c : ST) (b : SS) {n m : Nat} {τ : Sl} {r r' : Fl} (h : whlN c b n τ = some r) (h' : whlN c b m τ = some r') : r = r' := by
  have a := whlN_le c b h m
  have a' := whlN_le c b h' n
  rw [Nat.add_comm] at a'
  exact Option.some.inj (a.symm.trans a')
theorem sWhl_of {c : ST} {b : SS} {n : Nat} {τ : Sl} {r : Fl} (h : whlN c b n τ = some r) : sWhl c b τ = some r := by
  have e : ∃ r n, whlN c b n τ = some r := ⟨r, n, h⟩
  unfold sWhl
  rw [dif_pos e]
  obtain ⟨m, hm⟩ := e.choose_spec
  rw [whlN_det c b hm h]
theorem of_sWhl {c : ST} {b : SS} {τ : Sl} {r : Fl} (h : sWhl c b τ = some r) : ∃ n, whlN c b n τ = some r := by
  unfold sWhl at h
  by_cases e : ∃ r n, whlN c b n τ = some r
  · rw [dif_pos e] at h
    obtain ⟨m, hm⟩ := e.choose_spec
    cases h
    exact ⟨m, hm⟩
  · rw [dif_neg e] at h
    exact nomatch h
/-- the end of a while -/
theorem sWhl_end {c : ST} {b : SS} {τ : Sl} (hc : c τ = some false) : sWhl c b τ = some (.nx τ) :=
  sWhl_of (n := 1) (by unfold whlN; rw [hc])
/-- a turn of a while -/
theorem sWhl_turn {c : ST} {b : SS} {τ τ' : Sl} {r : Fl} (hc : c τ = some true) (hb : b τ = some (.nx τ')) (h : sWhl c b τ' = some r) : sWhl c b τ = some r := by
  obtain ⟨n, hn⟩ := of_sWhl h
  exact sWhl_of (n := n + 1) (by unfold whlN; rw [hc]; simp only; rw [hb]; exact hn)
/-- a target -/
abbrev TGd := O → Sl → Option Sl
@[simp] def gN (i : Nat) : TGd := fun o τ => some (τ.set i (some o))
@[simp] def gsN : List O → Sl → Option Sl := fun xs τ => match xs with
  | [] => some τ
  | _ => none
@[simp] def gsC (g : TGd) (r : List O → Sl → Option Sl) : List O → Sl → Option Sl := fun xs τ => match xs with
  | x :: xs => (g x τ).bind fun τ' => r xs τ'
  | [] => none
@[simp] def gT (n : Nat) (r : List O → Sl → Option Sl) : TGd := fun o τ => match o with
  | .tup xs => if xs.length = n then r xs τ else none
  | .kt ns => if ns.length = n then r (ns.map O.int) τ else none
  | _ => none
/-- a for over these items -/
def forD (g : TGd) (b : SS) : List O → SS
  | [], τ => some (.nx τ)
  | x :: xs, τ => (g x τ).bind fun τ1 => match b τ1 with
    | some (.nx τ') => forD g b xs τ'
    | some (.ct τ') => forD g b xs τ'
    | some (.bk τ') => some (.nx τ')
    | some (.rt o) => some (.rt o)
    | none => none
def sFor (ns : List Nat) (it : SEs) (g : TGd) (b : SS) : SS := fun τ => (it τ).bind fun xs => forD g b (frzs xs) (frzAt ns τ)
/-- a def: n parameters, m names -/
@[simp] def fnD (n m : Nat) (b : SS) : List O → Option O := fun os => if os.length = n then
    match b (os.map (fun o => some (frz o)) ++ List.replicate (m - n) none) with
    | some (.rt o) => some o
    | some (.nx _) => some .non
    | _ => none
  else none
/-! ### places, slices, lengths -/
def at? {α : Type} (xs : List α) (i : Int) : Option α := if 0 ≤ i then xs[i.toNat]? else if -(xs.length : Int) ≤ i then xs[(i + xs.length).toNat]? else none
@[simp] def sIx (n d : Nat) : Option Int → Nat
  | none => d
  | some v => if v < 0 then (v + (n : Int)).toNat else min v.toNat n
@[simp] def cut {α : Type} (xs : List α) (lo hi : Option Int) : List α := (xs.drop (sIx xs.length 0 lo)).take (sIx xs.length xs.length hi - sIx xs.length 0 lo)
@[simp] def ixD : O → O → Option O
  | .tup xs, .int i => at? xs i
  | .lst _ xs, .int i => at? xs i
  | .kt ns, .int i => (at? ns i).map O.int
  | _, _ => none
@[simp] def slD (x : O) (lo hi : Option Int) : Option O := match x with
  | .tup xs => some (.tup (cut xs lo hi))
  | .lst _ xs => some (.lst true (cut xs lo hi))
  | .scr ns => some (.lst true ((cut ns lo hi).map O.int))
  | _ => none
@[simp] def isND : O → Option O
  | .non => some (.bl true)
  | .scr _ => none
  | .anc _ => none
  | _ => some (.bl false)
@[simp] def notND : O → Option O
  | .non => some (.bl false)
  | .scr _ => none
  | .anc _ => none
  | _ => some (.bl true)
@[simp] def isN2 (x y : O) : Option O := match y with
  | .non => isND x
  | _ => none
@[simp] def notN2 (x y : O) : Option O := match y with
  | .non => notND x
  | _ => none
abbrev SP := Sl → Option (Option Int)
@[simp] def pN : SP := fun _ => some none
@[simp] def pI (a : SE) : SP := fun τ => (a τ).bind fun x => match x with
  | .int i => some (some i)
  | _ => none
@[simp] def xSl (a : SE) (lo hi : SP) : SE := fun τ => (a τ).bind fun x => (lo τ).bind fun l => (hi τ).bind fun h => slD x l h
@[simp] def lenD' : List O → Option O
  | [.tup xs] => some (.int xs.length)
  | [.kt ns] => some (.int ns.length)
  | [.lst _ xs] => some (.int xs.length)
  | [.str x] => if x.length ≤ sLine then some (.int x.length) else none
  | _ => none
@[simp] def absD : List O → Option O
  | [.int i] => some (.int (if i < 0 then -i else i))
  | _ => none
@[simp] def intD : List O → Option O
  | [.int i] => some (.int i)
  | [.bl b] => some (.int (if b then 1 else 0))
  | _ => none
@[simp] def maxD : List O → Option O
  | [.int i, .int j] => some (.int (if j > i then j else i))
  | _ => none
@[simp] def minD : List O → Option O
  | [.int i, .int j] => some (.int (if j < i then j else i))
  | _ => none
@[simp] def allB : List O → Option (List Bool)
  | [] => some []
  | x :: xs => (asB x).bind fun b => (allB xs).bind fun bs => some (b :: bs)
@[simp] def allD : List O → Option O
  | [.lst _ xs] => (allB xs).bind fun bs => some (.bl (bs.all id))
  | _ => none
@[simp] def anyD : List O → Option O
  | [.lst _ xs] => (allB xs).bind fun bs => some (.bl (bs.any id))
  | _ => none
@[simp] def listD : List O → Option O
  | [.lst _ xs] => some (.lst true (frzs xs))
  | [.tup xs] => some (.lst true (frzs xs))
  | _ => none
/-- a built-in's call, an operation -/
@[simp] def xF (f : List O → Option O) (r : SEs) : SE := fun τ => (r τ).bind f
inductive Ty5 | int | bool | list | tuple | str
def Ty5.name : Ty5 → String
  | .int => "int" | .bool => "bool" | .list => "list" | .tuple => "tuple" | .str => "str"
@[simp] def isiD (T : Ty5) : O → Option O
  | .non => some (.bl false)
  | .bl _ => some (.bl (match T with | .int => true | .bool => true | _ => false))
  | .int _ => some (.bl (match T with | .int => true | _ => false))
  | .str _ => some (.bl (match T with | .str => true | _ => false))
  | .tup _ => some (.bl (match T with | .tuple => true | _ => false))
  | .kt _ => some (.bl (match T with | .tuple => true | _ => false))
  | .lst _ _ => some (.bl (match T with | .list => true | _ => false))
  | .dK _ _ _ => some (.bl false)
  | .dT _ _ _ => some (.bl false)
  | .scr _ => none
  | .anc _ => none
/-! ### data compared -/
@[simp] def eqK : List Int → List O → Bool
  | [], [] => true
  | i :: is, .int j :: xs => i == j && eqK is xs
  | i :: is, .bl b :: xs => i == (if b then 1 else 0) && eqK is xs
  | _, _ => false
@[simp] def eqK' : List O → List Int → Bool
  | [], [] => true
  | .int j :: xs, i :: is => j == i && eqK' xs is
  | .bl b :: xs, i :: is => (if b then 1 else 0) == i && eqK' xs is
  | _, _ => false
@[simp] def eqKK : List Int → List Int → Bool
  | [], [] => true
  | i :: is, j :: js => i == j && eqKK is js
  | _, _ => false
mutual
@[simp] def eqo : O → O → Bool
  | .non, .non => true
  | .bl a, .bl b => a == b
  | .bl a, .int j => (if a then 1 else 0) == j
  | .int i, .bl b => i == (if b then 1 else 0)
  | .int i, .int j => i == j
  | .str x, .str y => x == y
  | .lst _ xs, .lst _ ys => eqos xs ys
  | .tup xs, .tup ys => eqos xs ys
  | .kt is, .tup ys => eqK is ys
  | .tup xs, .kt js => eqK' xs js
  | .kt is, .kt js => eqKK is js
  | _, _ => false
@[simp] def eqos : List O → List O → Bool
  | [], [] => true
  | x :: xs, y :: ys => eqo x y && eqos xs ys
  | [], _ :: _ => false
  | _ :: _, [] => false
end
def strOkD (x : Str) : Bool := x.cps.all (· < 0x110000)
/-- of depth n at most, without dicts -/
@[simp] def shO : Nat → O → Bool
  | _, .non => true
  | _, .bl _ => true
  | _, .int _ => true
  | _, .str x => strOkD x
  | n + 1, .tup xs => xs.all (shO n)
  | _ + 1, .kt _ => true
  | n + 1, .lst _ xs => xs.all (shO n)
  | _, _ => false
@[simp] def eqD (x y : O) : Option O := if shO 20 x && shO 20 y then some (.bl (eqo x y)) else none
@[simp] def neD (x y : O) : Option O := if shO 20 x && shO 20 y then some (.bl (!eqo x y)) else none
/-! ### what changes a list that a slot holds alone -/
/-- xs.append(e), e made by reading ns -/
@[simp] def sApp (ns : List Nat) (i : Nat) (a : SE) : SS := fun τ => (a τ).bind fun o =>
  let τ1 := if clean o then τ else frzAt ns τ
  match τ1[i]? with
  | some (some (.lst true xs)) => if xs.length < sLine then some (.nx (τ1.set i (some (.lst true (xs ++ [o]))))) else none
  | _ => none
/-! ### walks -/
@[simp] def itL (a : SE) : SEs := fun τ => (a τ).bind fun x => match x with
  | .lst _ xs => some xs
  | .tup xs => some xs
  | .kt ns => some (ns.map O.int)
  | _ => none
@[simp] def rngL (lo : Int) : Nat → List O
  | 0 => []
  | n + 1 => .int lo :: rngL (lo + 1) n
@[simp] def itR1 (a : SE) : SEs := fun τ => (a τ).bind fun x => match x with
  | .int j => if -(2 ^ 62) ≤ j ∧ j < 2 ^ 62 then some (rngL 0 j.toNat) else none
  | _ => none
@[simp] def itR2 (a b : SE) : SEs := fun τ => (a τ).bind fun x => (b τ).bind fun y => match x, y with
  | .int i, .int j => if -(2 ^ 62) ≤ i ∧ i < 2 ^ 62 ∧ -(2 ^ 62) ≤ j ∧ j < 2 ^ 62 then some (rngL i (j - i).toNat) else none
  | _, _ => none
@[simp] def zipL : List O → List O → List O
  | x :: xs, y :: ys => .tup [x, y] :: zipL xs ys
  | _, _ => []
@[simp] def zipO : O → O → Option (List O)
  | .lst _ xs, .lst _ ys => some (zipL xs ys)
  | .tup xs, .tup ys => some (zipL xs ys)
  | .lst _ xs, .tup ys => some (zipL xs ys)
  | .kt ns, .tup ys => some (zipL (ns.map O.int) ys)
  | .tup xs, .kt ms => some (zipL xs (ms.map O.int))
  | _, _ => none
@[simp] def itZ (a b : SE) : SEs := fun τ => (a τ).bind fun x => (b τ).bind fun y => zipO x y
@[simp] def enuL (i : Nat) : List O → List O
  | [] => []
  | x :: xs => .tup [.int i, x] :: enuL (i + 1) xs
@[simp] def enuO : O → Option (List O)
  | .lst _ xs => some (enuL 0 xs)
  | _ => none
@[simp] def itEn (a : SE) : SEs := fun τ => (a τ).bind enuO
/-- [e for g in xs if t] -/
def lcD (g : TGd) (t : ST) (e : SE) : List O → Sl → Option (List O)
  | [], _ => some []
  | x :: xs, τ => (g x τ).bind fun τ1 => (t τ1).bind fun b => if b then (e τ1).bind fun o => (lcD g t e xs τ).bind fun os => some (o :: os) else lcD g t e xs τ
@[simp] def wipeD : List Nat → Sl → Sl
  | [], τ => τ
  | i :: is, τ => (wipeD is τ).set i none
/-- the slots ns as views, the others out of reach -/
@[simp] def keepD (ns : List Nat) : Nat → Sl → Sl
  | _, [] => []
  | i, s :: τ => (if ns.contains i then frzSlot s else none) :: keepD ns (i + 1) τ
def xLc (ns vs : List Nat) (it : SEs) (g : TGd) (t : ST) (e : SE) : SE := fun τ => (it τ).bind fun xs => if xs.length ≤ sLine then (lcD g t e (frzs xs) (wipeD vs (keepD ns 0 τ))).bind fun os => some (.lst true os) else none
@[simp] def tY : ST := fun _ => some true
/-- a, b = e -/
@[simp] def sAsg (ns : List Nat) (a : SE) (g : TGd) : SS := fun τ => (a τ).bind fun o => (g (frz o) (if clean o then τ else frzAt ns τ)).bind fun τ' => some (.nx τ')
/-- a, b = e1, e2: stored from the right -/
@[simp] def sPar (ns : List Nat) (i j : Nat) (r : SEs) : SS := fun τ => (r τ).bind fun xs => match xs with
  | [x, y] => some (.nx (((if cleans xs then τ else frzAt ns τ).set i (some (frz x))).set j (some (frz y))))
  | _ => none
@[simp] def sPar3 (ns : List Nat) (i j l : Nat) (r : SEs) : SS := fun τ => (r τ).bind fun xs => match xs with
  | [x, y, z] => some (.nx ((((if cleans xs then τ else frzAt ns τ).set i (some (frz x))).set j (some (frz y))).set l (some (frz z))))
  | _ => none
/-- x += e, whole numbers -/
@[simp] def sAugI (i : Nat) (f : O → O → Option O) (a : SE) : SS := fun τ => (get i τ).bind fun x => (a τ).bind fun y => match x, y with
  | .int p, .int q => (f (.int p) (.int q)).bind fun o => some (.nx (τ.set i (some (frz o))))
  | _, _ => none
/-- an expression dropped -/
@[simp] def sDrop (a : SE) : SS := fun τ => (a τ).bind fun _ => some (.nx τ)
end Dv
end
section
set_option Elab.async false
set_option linter.all false
set_option maxRecDepth 100000
/-! Du: more constructs of the text: dicts with tuples for keys, sorted, what changes a list of flat items. -/
namespace Dv
open PySem (Str)
def keyI : O → Option Key
  | .int i => some (.inl i)
  | .str x => some (.inr x)
  | _ => none
def keyL : List O → Option (List Key)
  | [] => some []
  | x :: xs => (keyI x).bind fun k => (keyL xs).bind fun ks => some (k :: ks)
def keyV : Key → O
  | .inl i => .int i
  | .inr x => .str x
/-- the tuple that is a key -/
def keyT (k : List Key) : O := .tup (k.map keyV)
/-- {} -/
@[simp] def xDnew : SE := fun _ => some (.dT true [] [])
/-- the keys and values behind d[k] = o -/
def dput (ks : List (List Key)) (vs : List O) (k : List Key) (o : O) : List (List Key) × List O :=
  if (ks.any fun k' => decide (k' = k)) = true then (ks, List.zipWith (fun k' v => if k' = k then o else v) ks vs) else (ks ++ [k], vs ++ [o])
/-- d[k] = v, d a slot -/
def sDput (i : Nat) (k v : SE) : SS := fun τ => (v τ).bind fun o => (k τ).bind fun x => match x, τ[i]? with
  | .tup xs, some (some (.dT true ks vs)) => if flat o = true ∧ flats vs = true ∧ ks.length = vs.length ∧ ks.length < sLine then (keyL xs).bind fun kk => some (.nx (τ.set i (some (.dT true (dput ks vs kk o).1 (dput ks vs kk o).2)))) else none
  | _, _ => none
/-- list(x), a dict's keys too -/
def listE : List O → Option O
  | [.lst _ xs] => some (.lst true (frzs xs))
  | [.tup xs] => some (.lst true (frzs xs))
  | [.dT _ ks _] => some (.lst true (ks.map keyT))
  | _ => none
def asIs : List O → Option (List Int)
  | [] => some []
  | .int i :: xs => (asIs xs).bind fun is => some (i :: is)
  | _ :: _ => none
def leI (p q : List Int) : Bool := decide (p ≤ q)
end Dv
end
section
set_option Elab.async false
set_option linter.all false
set_option maxRecDepth 100000
/-! Dj: how an abstract heap bears the values of Dv; the judgements over the layer. -/
namespace Dv
open PySem PySem.Spec L2
open PyProof.Rows hiding St
/-- a tuple of the written part -/
def KTup (K : PySem.W.Frag) (a : Addr) (xs : List V) : Prop := ∃ (o : Obj) (its : Array Value) (n : Nat), K.lookup a = some o ∧ o.cls = .type "tuple" ∧ o.data = .seq its n ∧ its.size ≤ sizeLine ∧ Vals xs its.toList
theorem KTup.sq {K : PySem.W.Frag} {a : Addr} {xs : List V} (h : KTup K a xs) (H : Hp) : SqT K H a xs := .inr h
/-- the script: a list wherever what is known to the object stays known -/
def ScrAt (K : PySem.W.Frag) (H : Hp) (a : Addr) (xs : List V) : Prop := ∀ H' : Hp, (∀ o u, H a = some (.frz o u) → H' a = some (.frz o u)) → SqL K H' a xs
mutual
/-- v stands for o in H; B: what no shared part touches; F: the objects held alone -/
def Rp (K : PySem.W.Frag) (H : Hp) (B : Addr → Prop) : O → V → List Addr → Prop
  | .non, v, F => v = .non ∧ F = []
  | .bl b, v, F => v = .bl b ∧ F = []
  | .int i, v, F => v = .int i ∧ F = []
  | .str x, v, F => v = .str x ∧ F = []
  | .scr ns, v, F => ∃ a, v = .ref a ∧ F = [] ∧ ScrAt K H a (ns.map V.int)
  | .anc a, v, F => v = .ref a ∧ F = []
  | .kt ns, v, F => ∃ a, v = .ref a ∧ F = [] ∧ KTup K a (ns.map V.int)
  | .tup os, v, F => ∃ a vs, v = .ref a ∧ H a = some (.tup vs) ∧ Rps K H B os vs F
  | .lst false os, v, F => ∃ a vs, v = .ref a ∧ H a = some (.lst vs) ∧ ¬ B a ∧ F = [] ∧ Rps K H B os vs []
  | .lst true os, v, F => ∃ a vs G, v = .ref a ∧ H a = some (.lst vs) ∧ F = a :: G ∧ Rps K H B os vs G
  | .dK false ks os, v, F => ∃ a kvs, v = .ref a ∧ Rd H a (.dK kvs) ∧ ¬ B a ∧ F = [] ∧ kvs.map (·.1) = ks ∧ Rps K H B os (kvs.map (·.2)) []
  | .dK true ks os, v, F => ∃ a kvs G, v = .ref a ∧ H a = some (.dK kvs) ∧ F = a :: G ∧ kvs.map (·.1) = ks ∧ Rps K H B os (kvs.map (·.2)) G
  | .dT false ks os, v, F => ∃ a kvs, v = .ref a ∧ H a = some (.dT kvs) ∧ ¬ B a ∧ F = [] ∧ kvs.map (·.1) = ks ∧ Rps K H B os (kvs.map (·.2)) []
  | .dT true ks os, v, F => ∃ a kvs G, v = .ref a ∧ H a = some (.dT kvs) ∧ F = a :: G ∧ kvs.map (·.1) = ks ∧ Rps K H B os (kvs.map (·.2)) G
def Rps (K : PySem.W.Frag) (H : Hp) (B : Addr → Prop) : List O → List V → List Addr → Prop
  | [], vs, F => vs = [] ∧ F = []
  | o :: os, vs, F => ∃ v vr F1 F2, vs = v :: vr ∧ F = F1 ++ F2 ∧ Rp K H B o v F1 ∧ Rps K H B os vr F2
end
/-- all but B stands -/
def Ext (B : Addr → Prop) (H H' : Hp) : Prop := ∀ a o, ¬ B a → H a = some o → H' a = some o
theorem Ext.of {B : Addr → Prop} {H H' : Hp} (h : Same H H') : Ext B H H' := fun a o _ e => h a o e
theorem Ext.trans {B : Addr → Prop} {H H1 H2 : Hp} (a : Ext B H H1) (b : Ext B H1 H2) : Ext B H H2 := fun x o n e => b x o n (a x o n e)
theorem Ext.mono {B B' : Addr → Prop} {H H' : Hp} (a : Ext B H H') (h : ∀ x, B x → B' x) : Ext B' H H' := fun x o n e => a x o (fun z => n (h x z)) e
/-- what B holds may be changed -/
def MutB (B : Addr → Prop) (H : Hp) : Prop := ∀ a, B a → Mut (H a)
theorem mut_notup {H : Hp} {a : Addr} (h : Mut (H a)) (xs : List V) : ¬ Rd H a (.tup xs) := fun r => by
  rcases r with r | ⟨o, r⟩ <;> rw [r] at h <;> exact h
theorem rd_ext {B : Addr → Prop} {H H' : Hp} {a : Addr} {u : HO} (e : Ext B H H') (n : ¬ B a) (h : Rd H a u) : Rd H' a u := by
  rcases h with h | ⟨o, h⟩
  · exact .inl (e _ _ n h)
  · exact .inr ⟨o, e _ _ n h⟩
theorem scr_ext {K : PySem.W.Frag} {B : Addr → Prop} {H H' : Hp} {a : Addr} {xs : List V} (e : Ext B H H') (t : MutB B H) (h : ScrAt K H a xs) : ScrAt K H' a xs := fun H2 k =>
  h H2 fun o u q => k o u (e a _ (fun z => by have m := t a z; rw [q] at m; exact m) q)
theorem sqt_ext {K : PySem.W.Frag} {B : Addr → Prop} {H H' : Hp} {a : Addr} {xs : List V} (e : Ext B H H') (t : MutB B H) (h : SqT K H a xs) : SqT K H' a xs := by
  rcases h with h | h
  · exact .inl (rd_ext e (fun b => mut_notup (t a b) xs h) h)
  · exact .inr h
mutual
/-- the shared parts stand where all but B stands; the own ones are told to stand -/
theorem Rp.ext {K : PySem.W.Frag} {B C : Addr → Prop} {H H' : Hp} (e : Ext C H H') (t : MutB C H) (bc : ∀ a, C a → B a) : ∀ {o : O} {v : V} {F : List Addr}, (∀ a ∈ F, ∀ u, H a = some u → H' a = some u) → Rp K H B o v F → Rp K H' B o v F
  | .non, _, _, _, h => h
  | .bl _, _, _, _, h => h
  | .int _, _, _, _, h => h
  | .str _, _, _, _, h => h
  | .anc _, _, _, _, h => h
  | .scr ns, v, F, k, h => by
    obtain ⟨a, h1, h2, h3⟩ := h
    exact ⟨a, h1, h2, scr_ext e t h3⟩
  | .kt _, _, _, _, h => h
  | .tup os, v, F, k, h => by
    obtain ⟨a, vs, h1, h2, h3⟩ := h
    exact ⟨a, vs, h1, e _ _ (fun z => by have m := t a z; rw [h2] at m; exact m) h2, Rps.ext e t bc k h3⟩
  | .lst false os, v, F, k, h => by
    obtain ⟨a, vs, h1, h2, h3, h4, h5⟩ := h
    exact ⟨a, vs, h1, e _ _ (fun z => h3 (bc _ z)) h2, h3, h4, Rps.ext e t bc (F := []) (fun a z => nomatch z) h5⟩
  | .lst true os, v, F, k, h => by
    obtain ⟨a, vs, G, h1, h2, rfl, h4⟩ := h
    exact ⟨a, vs, G, h1, k a (List.mem_cons_self) _ h2, rfl, Rps.ext e t bc (fun b z => k b (List.mem_cons_of_mem _ z)) h4⟩
  | .dK false ks os, v, F, k, h => by
    obtain ⟨a, vs, h1, h2, h3, h4, h5, h6⟩ := h
    exact ⟨a, vs, h1, rd_ext e (fun z => h3 (bc _ z)) h2, h3, h4, h5, Rps.ext e t bc (F := []) (fun a z => nomatch z) h6⟩
  | .dK true ks os, v, F, k, h => by
    obtain ⟨a, vs, G, h1, h2, rfl, h4, h5⟩ := h
    exact ⟨a, vs, G, h1, k a (List.mem_cons_self) _ h2, rfl, h4, Rps.ext e t bc (fun b z => k b (List.mem_cons_of_mem _ z)) h5⟩
  | .dT false ks os, v, F, k, h => by
    obtain ⟨a, vs, h1, h2, h3, h4, h5, h6⟩ := h
    exact ⟨a, vs, h1, e _ _ (fun z => h3 (bc _ z)) h2, h3, h4, h5, Rps.ext e t bc (F := []) (fun a z => nomatch z) h6⟩
  | .dT true ks os, v, F, k, h => by
    obtain ⟨a, vs, G, h1, h2, rfl, h4, h5⟩ := h
    exact ⟨a, vs, G, h1, k a (List.mem_cons_self) _ h2, rfl, h4, Rps.ext e t bc (fun b z => k b (List.mem_cons_of_mem _ z)) h5⟩
theorem Rps.ext {K : PySem.W.Frag} {B C : Addr → Prop} {H H' : Hp} (e : Ext C H H') (t : MutB C H) (bc : ∀ a, C a → B a) : ∀ {os : List O} {vs : List V} {F : List Addr}, (∀ a ∈ F, ∀ u, H a = some u → H' a = some u) → Rps K H B os vs F → Rps K H' B os vs F
  | [], _, _, _, h => h
  | o :: os, vs, F, k, h => by
    obtain ⟨v, vr, F1, F2, h1, h2, h3, h4⟩ := h
    subst h2
    exact ⟨v, vr, F1, F2, h1, rfl, Rp.ext e t bc (fun a z => k a (List.mem_append_left _ z)) h3, Rps.ext e t bc (fun a z => k a (List.mem_append_right _ z)) h4⟩
end
theorem noB {H : Hp} : MutB (fun _ => False) H := fun _ z => z.elim
theorem Rp.same {K : PySem.W.Frag} {B : Addr → Prop} {H H' : Hp} (e : Same H H') {o : O} {v : V} {F : List Addr} (h : Rp K H B o v F) : Rp K H' B o v F :=
  h.ext (C := fun _ => False) (Ext.of e) noB (fun _ z => z.elim) fun a _ u q => e a u q
theorem Rps.same {K : PySem.W.Frag} {B : Addr → Prop} {H H' : Hp} (e : Same H H') {o : List O} {v : List V} {F : List Addr} (h : Rps K H B o v F) : Rps K H' B o v F :=
  h.ext (C := fun _ => False) (Ext.of e) noB (fun _ z => z.elim) fun a _ u q => e a u q
mutual
/-- another B -/
theorem Rp.avoid {K : PySem.W.Frag} {B B' : Addr → Prop} {H : Hp} (e : ∀ a, H a ≠ none → ¬ B a → ¬ B' a) : ∀ {o : O} {v : V} {F : List Addr}, Rp K H B o v F → Rp K H B' o v F
  | .non, _, _, h => h
  | .bl _, _, _, h => h
  | .int _, _, _, h => h
  | .str _, _, _, h => h
  | .anc _, _, _, h => h
  | .scr _, _, _, h => h
  | .kt _, _, _, h => h
  | .tup os, v, F, h => by
    obtain ⟨a, vs, h1, h2, h3⟩ := h
    exact ⟨a, vs, h1, h2, Rps.avoid e h3⟩
  | .lst false os, v, F, h => by
    obtain ⟨a, vs, h1, h2, h3, h4, h5⟩ := h
    exact ⟨a, vs, h1, h2, e a (by rw [h2]; simp) h3, h4, Rps.avoid e h5⟩
  | .lst true os, v, F, h => by
    obtain ⟨a, vs, G, h1, h2, rfl, h4⟩ := h
    exact ⟨a, vs, G, h1, h2, rfl, Rps.avoid e h4⟩
  | .dK false ks os, v, F, h => by
    obtain ⟨a, vs, h1, h2, h3, h4, h5, h6⟩ := h
    refine ⟨a, vs, h1, h2, e a ?_ h3, h4, h5, Rps.avoid e h6⟩
    rcases h2 with h2 | ⟨u, h2⟩ <;> rw [h2] <;> simp
  | .dK true ks os, v, F, h => by
    obtain ⟨a, vs, G, h1, h2, rfl, h4, h5⟩ := h
    exact ⟨a, vs, G, h1, h2, rfl, h4, Rps.avoid e h5⟩
  | .dT false ks os, v, F, h => by
    obtain ⟨a, vs, h1, h2, h3, h4, h5, h6⟩ := h
    exact ⟨a, vs, h1, h2, e a (by rw [h2]; simp) h3, h4, h5, Rps.avoid e h6⟩
  | .dT true ks os, v, F, h => by
    obtain ⟨a, vs, G, h1, h2, rfl, h4, h5⟩ := h
    exact ⟨a, vs, G, h1, h2, rfl, h4, Rps.avoid e h5⟩
theorem Rps.avoid {K : PySem.W.Frag} {B B' : Addr → Prop} {H : Hp} (e : ∀ a, H a ≠ none → ¬ B a → ¬ B' a) : ∀ {os : List O} {vs : List V} {F : List Addr}, Rps K H B os vs F → Rps K H B' os vs F
  | [], _, _, h => h
  | o :: os, vs, F, h => by
    obtain ⟨v, vr, F1, F2, h1, h2, h3, h4⟩ := h
    exact ⟨v, vr, F1, F2, h1, h2, Rp.avoid e h3, Rps.avoid e h4⟩
end
theorem Rp.mono {K : PySem.W.Frag} {B B' : Addr → Prop} {H : Hp} {o : O} {v : V} {F : List Addr} (h : Rp K H B o v F) (e : ∀ a, B' a → B a) : Rp K H B' o v F := h.avoid fun a _ n z => n (e a z)
theorem Rps.mono {K : PySem.W.Frag} {B B' : Addr → Prop} {H : Hp} {os : List O} {vs : List V} {F : List Addr} (h : Rps K H B os vs F) (e : ∀ a, B' a → B a) : Rps K H B' os vs F := h.avoid fun a _ n z => n (e a z)
mutual
/-- clean: no shared part, so any B -/
theorem Rp.clean {K : PySem.W.Frag} {B B' : Addr → Prop} {H : Hp} : ∀ {o : O} {v : V} {F : List Addr}, clean o = true → Rp K H B o v F → Rp K H B' o v F
  | .non, _, _, _, h => h
  | .bl _, _, _, _, h => h
  | .int _, _, _, _, h => h
  | .str _, _, _, _, h => h
  | .anc _, _, _, _, h => h
  | .scr _, _, _, _, h => h
  | .kt _, _, _, _, h => h
  | .tup os, v, F, c, h => by
    obtain ⟨a, vs, h1, h2, h3⟩ := h
    exact ⟨a, vs, h1, h2, Rps.clean c h3⟩
  | .lst false os, v, F, c, h => (by have c' : (false && cleans os) = true := c; simp at c')
  | .lst true os, v, F, c, h => by
    obtain ⟨a, vs, G, h1, h2, rfl, h4⟩ := h
    exact ⟨a, vs, G, h1, h2, rfl, Rps.clean c h4⟩
  | .dK false ks os, v, F, c, h => (by have c' : (false && cleans os) = true := c; simp at c')
  | .dK true ks os, v, F, c, h => by
    obtain ⟨a, vs, G, h1, h2, rfl, h4, h5⟩ := h
    exact ⟨a, vs, G, h1, h2, rfl, h4, Rps.clean c h5⟩
  | .dT false ks os, v, F, c, h => (by have c' : (false && cleans os) = true := c; simp at c')
  | .dT true ks os, v, F, c, h => by
    obtain ⟨a, vs, G, h1, h2, rfl, h4, h5⟩ := h
    exact ⟨a, vs, G, h1, h2, rfl, h4, Rps.clean c h5⟩
theorem Rps.clean {K : PySem.W.Frag} {B B' : Addr → Prop} {H : Hp} : ∀ {os : List O} {vs : List V} {F : List Addr}, cleans os = true → Rps K H B os vs F → Rps K H B' os vs F
  | [], _, _, _, h => h
  | o :: os, vs, F, c, h => by
    obtain ⟨v, vr, F1, F2, h1, h2, h3, h4⟩ := h
    have c' : (Dv.clean o && cleans os) = true := c
    rw [Bool.and_eq_true] at c'
    exact ⟨v, vr, F1, F2, h1, h2, Rp.clean c'.1 h3, Rps.clean c'.2 h4⟩
end
mutual
/-- no longer held alone -/
theorem Rp.frz {K : PySem.W.Frag} {B : Addr → Prop} {H : Hp} : ∀ {o : O} {v : V} {F : List Addr}, (∀ a ∈ F, ¬ B a) → Rp K H B o v F → Rp K H B (frz o) v []
  | .non, _, _, _, h => ⟨h.1, rfl⟩
  | .bl _, _, _, _, h => ⟨h.1, rfl⟩
  | .int _, _, _, _, h => ⟨h.1, rfl⟩
  | .str _, _, _, _, h => ⟨h.1, rfl⟩
  | .anc _, _, _, _, h => ⟨h.1, rfl⟩
  | .scr _, _, _, _, h => by
    obtain ⟨a, h1, h2, h3⟩ := h
    exact ⟨a, h1, rfl, h3⟩
  | .kt _, _, _, _, h => by
    obtain ⟨a, h1, h2, h3⟩ := h
    exact ⟨a, h1, rfl, h3⟩
  | .tup os, v, F, k, h => by
    obtain ⟨a, vs, h1, h2, h3⟩ := h
    exact ⟨a, vs, h1, h2, Rps.frz k h3⟩
  | .lst false os, v, F, k, h => by
    obtain ⟨a, vs, h1, h2, h3, h4, h5⟩ := h
    exact ⟨a, vs, h1, h2, h3, rfl, Rps.frz (F := []) (fun a z => nomatch z) h5⟩
  | .lst true os, v, F, k, h => by
    obtain ⟨a, vs, G, h1, h2, rfl, h4⟩ := h
    exact ⟨a, vs, h1, h2, k a List.mem_cons_self, rfl, Rps.frz (fun b z => k b (List.mem_cons_of_mem _ z)) h4⟩
  | .dK false ks os, v, F, k, h => by
    obtain ⟨a, vs, h1, h2, h3, h4, h5, h6⟩ := h
    exact ⟨a, vs, h1, h2, h3, rfl, h5, Rps.frz (F := []) (fun a z => nomatch z) h6⟩
  | .dK true ks os, v, F, k, h => by
    obtain ⟨a, vs, G, h1, h2, rfl, h4, h5⟩ := h
    exact ⟨a, vs, h1, .inl h2, k a List.mem_cons_self, rfl, h4, Rps.frz (fun b z => k b (List.mem_cons_of_mem _ z)) h5⟩
  | .dT false ks os, v, F, k, h => by
    obtain ⟨a, vs, h1, h2, h3, h4, h5, h6⟩ := h
    exact ⟨a, vs, h1, h2, h3, rfl, h5, Rps.frz (F := []) (fun a z => nomatch z) h6⟩
  | .dT true ks os, v, F, k, h => by
    obtain ⟨a, vs, G, h1, h2, rfl, h4, h5⟩ := h
    exact ⟨a, vs, h1, h2, k a List.mem_cons_self, rfl, h4, Rps.frz (fun b z => k b (List.mem_cons_of_mem _ z)) h5⟩
theorem Rps.frz {K : PySem.W.Frag} {B : Addr → Prop} {H : Hp} : ∀ {os : List O} {vs : List V} {F : List Addr}, (∀ a ∈ F, ¬ B a) → Rps K H B os vs F → Rps K H B (frzs os) vs []
  | [], _, _, _, h => ⟨h.1, rfl⟩
  | o :: os, vs, F, k, h => by
    obtain ⟨v, vr, F1, F2, h1, h2, h3, h4⟩ := h
    subst h2
    exact ⟨v, vr, [], [], h1, rfl, Rp.frz (fun a z => k a (List.mem_append_left _ z)) h3, Rps.frz (fun a z => k a (List.mem_append_right _ z)) h4⟩
end
mutual
/-- what is held alone is tracked -/
theorem Rp.own {K : PySem.W.Frag} {B : Addr → Prop} {H : Hp} : ∀ {o : O} {v : V} {F : List Addr}, Rp K H B o v F → ∀ a ∈ F, Mut (H a)
  | .non, _, _, h => by rw [h.2]; exact fun a z => nomatch z
  | .bl _, _, _, h => by rw [h.2]; exact fun a z => nomatch z
  | .int _, _, _, h => by rw [h.2]; exact fun a z => nomatch z
  | .str _, _, _, h => by rw [h.2]; exact fun a z => nomatch z
  | .anc _, _, _, h => by rw [h.2]; exact fun a z => nomatch z
  | .scr _, _, _, h => by
    obtain ⟨a, h1, h2, h3⟩ := h
    rw [h2]; exact fun a z => nomatch z
  | .kt _, _, _, h => by
    obtain ⟨a, h1, h2, h3⟩ := h
    rw [h2]; exact fun a z => nomatch z
  | .tup os, v, F, h => by
    obtain ⟨a, vs, h1, h2, h3⟩ := h
    exact Rps.own h3
  | .lst false os, v, F, h => by
    obtain ⟨a, vs, h1, h2, h3, h4, h5⟩ := h
    rw [h4]; exact fun a z => nomatch z
  | .lst true os, v, F, h => by
    obtain ⟨a, vs, G, h1, h2, rfl, h4⟩ := h
    intro b z
    rcases List.mem_cons.mp z with rfl | z
    · rw [h2]; trivial
    · exact Rps.own h4 b z
  | .dK false ks os, v, F, h => by
    obtain ⟨a, vs, h1, h2, h3, h4, h5, h6⟩ := h
    rw [h4]; exact fun a z => nomatch z
  | .dK true ks os, v, F, h => by
    obtain ⟨a, vs, G, h1, h2, rfl, h4, h5⟩ := h
    intro b z
    rcases List.mem_cons.mp z with rfl | z
    · rw [h2]; trivial
    · exact Rps.own h5 b z
  | .dT false ks os, v, F, h => by
    obtain ⟨a, vs, h1, h2, h3, h4, h5, h6⟩ := h
    rw [h4]; exact fun a z => nomatch z
  | .dT true ks os, v, F, h => by
    obtain ⟨a, vs, G, h1, h2, rfl, h4, h5⟩ := h
    intro b z
    rcases List.mem_cons.mp z with rfl | z
    · rw [h2]; trivial
    · exact Rps.own h5 b z
theorem Rps.own {K : PySem.W.Frag} {B : Addr → Prop} {H : Hp} : ∀ {os : List O} {vs : List V} {F : List Addr}, Rps K H B os vs F → ∀ a ∈ F, Mut (H a)
  | [], _, _, h => by rw [h.2]; exact fun a z => nomatch z
  | o :: os, vs, F, h => by
    obtain ⟨v, vr, F1, F2, h1, h2, h3, h4⟩ := h
    subst h2
    intro a z
    rcases List.mem_append.mp z with z | z
    · exact Rp.own h3 a z
    · exact Rps.own h4 a z
end
theorem mut_some {x : Option HO} (h : Mut x) : x ≠ none := fun e => by rw [e] at h; exact h
theorem Rps.len {K : PySem.W.Frag} {B : Addr → Prop} {H : Hp} : ∀ {os : List O} {vs : List V} {F : List Addr}, Rps K H B os vs F → os.length = vs.length
  | [], _, _, h => by rw [h.1]; rfl
  | o :: os, vs, F, h => by
    obtain ⟨v, vr, F1, F2, h1, h2, h3, h4⟩ := h
    rw [h1, List.length_cons, List.length_cons, Rps.len h4]
/-! ### the slots -/
/-- H0: the heap at the entry; B0: what the callers hold alone; Fs: what each slot holds alone -/
structure RS (K : PySem.W.Frag) (H0 : Hp) (B0 : Addr → Prop) (H : Hp) (σ : St) (τ : Sl) (Fs : List (List Addr)) : Prop where
  same : Same H0 H
  old : ∀ a, B0 a → Mut (H a)
  sep : ∀ a ∈ Fs.flatten, ¬ B0 a
  len : Fs.length = τ.length
  lenσ : σ.length = τ.length
  nodup : Fs.flatten.Nodup
  fresh : ∀ a ∈ Fs.flatten, H0 a = none
  slot : ∀ (i : Nat) (o : O), τ[i]? = some (some o) → ∃ v F, σ[i]? = some (some v) ∧ Fs[i]? = some F ∧ Rp K H (fun a => B0 a ∨ a ∈ Fs.flatten) o v F
  nil : ∀ (i : Nat), τ[i]? = some none → Fs[i]? = some []
/-- B and what F holds -/
def Bor (B : Addr → Prop) (F : List Addr) : Addr → Prop := fun a => B a ∨ a ∈ F
/-- what a value read from the slots ns may not touch -/
def Av (B0 : Addr → Prop) (ns : List Nat) (Fs : List (List Addr)) : Addr → Prop := fun a => B0 a ∨ ∃ (i : Nat) (F : List Addr), i ∉ ns ∧ Fs[i]? = some F ∧ a ∈ F
theorem mem_flat {Fs : List (List Addr)} {i : Nat} {F : List Addr} {a : Addr} (h : Fs[i]? = some F) (z : a ∈ F) : a ∈ Fs.flatten := List.mem_flatten.mpr ⟨F, List.mem_of_getElem? h, z⟩
theorem flat_mem {Fs : List (List Addr)} {a : Addr} (h : a ∈ Fs.flatten) : ∃ (i : Nat) (F : List Addr), Fs[i]? = some F ∧ a ∈ F := by
  obtain ⟨F, h1, h2⟩ := List.mem_flatten.mp h
  obtain ⟨i, h3⟩ := List.getElem?_of_mem h1
  exact ⟨i, F, h3, h2⟩
theorem nodup_one : ∀ {Fs : List (List Addr)}, Fs.flatten.Nodup → ∀ {i j : Nat} {F G : List Addr} {a : Addr}, Fs[i]? = some F → Fs[j]? = some G → a ∈ F → a ∈ G → i = j
  | [], _, i, _, _, _, _, h, _, _, _ => by simp at h
  | X :: Fs, nd, 0, 0, F, G, a, h, h', z, z' => rfl
  | X :: Fs, nd, 0, j + 1, F, G, a, h, h', z, z' => by
    have e : X = F := Option.some.inj h
    subst e
    rw [List.flatten_cons, List.nodup_append] at nd
    exact absurd rfl (nd.2.2 a z a (mem_flat (i := j) h' z'))
  | X :: Fs, nd, i + 1, 0, F, G, a, h, h', z, z' => by
    have e : X = G := Option.some.inj h'
    subst e
    rw [List.flatten_cons, List.nodup_append] at nd
    exact absurd rfl (nd.2.2 a z' a (mem_flat (i := i) h z))
  | X :: Fs, nd, i + 1, j + 1, F, G, a, h, h', z, z' => by
    rw [List.flatten_cons, List.nodup_append] at nd
    rw [nodup_one nd.2.1 (i := i) (j := j) h h' z z']
theorem nodup_part : ∀ {Fs : List (List Addr)} {i : Nat} {F : List Addr}, Fs.flatten.Nodup → Fs[i]? = some F → F.Nodup
  | [], i, F, _, h => by simp at h
  | X :: Fs, 0, F, nd, h => by
    have e : X = F := Option.some.inj h
    subst e
    rw [List.flatten_cons, List.nodup_append] at nd
    exact nd.1
  | X :: Fs, i + 1, F, nd, h => by
    rw [List.flatten_cons, List.nodup_append] at nd
    exact nodup_part nd.2.1 (i := i) h
section
variable {K : PySem.W.Frag} {H0 : Hp} {B0 : Addr → Prop} {H H' : Hp} {σ : St} {τ : Sl} {Fs : List (List Addr)}
theorem RS.go (r : RS K H0 B0 H σ τ Fs) (e : Same H H') : RS K H0 B0 H' σ τ Fs :=
  ⟨r.same.trans e, fun a z => (by
    have m := r.old a z
    cases q : H a with
    | none => rw [q] at m; exact m.elim
    | some u => rw [e a u q]; rw [q] at m; exact m), r.sep, r.len, r.lenσ, r.nodup, r.fresh, fun i o h => let ⟨v, F, a, b, c⟩ := r.slot i o h; ⟨v, F, a, b, c.same e⟩, r.nil⟩
theorem Av.mono {ns ms : List Nat} {a : Addr} (h : Av B0 (ns ++ ms) Fs a) : Av B0 ns Fs a ∧ Av B0 ms Fs a := by
  rcases h with h | ⟨i, F, n, e, z⟩
  · exact ⟨.inl h, .inl h⟩
  · exact ⟨.inr ⟨i, F, fun q => n (List.mem_append_left _ q), e, z⟩, .inr ⟨i, F, fun q => n (List.mem_append_right _ q), e, z⟩⟩
theorem Av.all {ns : List Nat} {a : Addr} (h : Av B0 ns Fs a) : B0 a ∨ a ∈ Fs.flatten := by
  rcases h with h | ⟨i, F, n, e, z⟩
  · exact .inl h
  · exact .inr (mem_flat e z)
theorem Av.old {B0' : Addr → Prop} {ns : List Nat} {a : Addr} (i : ∀ x, B0 x → B0' x) (h : Av B0 ns Fs a) : Av B0' ns Fs a := by
  rcases h with h | h
  · exact .inl (i a h)
  · exact .inr h
/-- what a slot holds is changeable -/
theorem RS.mutF (r : RS K H0 B0 H σ τ Fs) {a : Addr} (h : a ∈ Fs.flatten) : Mut (H a) := by
  obtain ⟨i, F, e, z⟩ := flat_mem h
  cases q : τ[i]? with
  | none =>
    have : i < Fs.length := (List.getElem?_eq_some_iff.mp e).1
    have h2 := List.getElem?_eq_none_iff.mp q
    have := r.len
    omega
  | some s =>
    cases s with
    | none =>
      have := r.nil i q
      rw [e] at this
      cases this
      cases z
    | some o =>
      obtain ⟨v, F', _, e', c⟩ := r.slot i o q
      rw [e] at e'
      cases e'
      exact c.own a z
theorem RS.mutAv (r : RS K H0 B0 H σ τ Fs) {a : Addr} (h : B0 a ∨ a ∈ Fs.flatten) : Mut (H a) := by
  rcases h with h | h
  · exact r.old a h
  · exact r.mutF h
/-- what is new is none of B's -/
theorem avB {ns : List Nat} (rs : RS K H0 B0 H σ τ Fs) {a : Addr} (h : H a = none) : ¬ Av B0 ns Fs a := fun z => mut_some (rs.mutAv z.all) h
/-- with more that is out of reach: what was made meanwhile -/
theorem RS.more {F : List Addr} (r : RS K H0 B0 H σ τ Fs) {H1 : Hp} (e : Same H H1) (m : ∀ a ∈ F, Mut (H1 a)) (n : ∀ a ∈ F, H a = none) : RS K H0 (Bor B0 F) H1 σ τ Fs := by
  have r1 := r.go e
  refine ⟨r1.same, fun a z => ?_, fun a z q => ?_, r1.len, r1.lenσ, r1.nodup, r1.fresh, fun i o h => ?_, r1.nil⟩
  · rcases z with z | z
    · exact r1.old a z
    · exact m a z
  · rcases q with q | q
    · exact r1.sep a z q
    · exact mut_some (r.mutF z) (n a q)
  · obtain ⟨v, F', a, b, c⟩ := r.slot i o h
    refine ⟨v, F', a, b, Rp.same e (c.avoid fun x ne nx z => ?_)⟩
    rcases z with (z | z) | z
    · exact nx (.inl z)
    · exact ne (n x z)
    · exact nx (.inr z)
/-- a slot, as a view -/
theorem RS.view (r : RS K H0 B0 H σ τ Fs) {i : Nat} {o : O} (h : τ[i]? = some (some o)) : ∃ v, σ[i]? = some (some v) ∧ Rp K H (Av B0 [i] Fs) (Dv.frz o) v [] := by
  obtain ⟨v, F, a, b, c⟩ := r.slot i o h
  refine ⟨v, a, (c.mono fun x z => z.all).frz fun x z q => ?_⟩
  rcases q with q | ⟨j, G, n, e, z'⟩
  · exact r.sep x (mem_flat b z) q
  · exact n (by rw [nodup_one r.nodup e b z' z]; exact List.mem_singleton.mpr rfl)
theorem Rp.nilF {B : Addr → Prop} {o : O} {v : V} (h : Rp K H B o v []) : Rp K H (Bor B []) o v [] := h.mono fun a z => z.elim id fun q => nomatch q
end
/-! ### the judgements: readings of the layer -/
def tE (K : PySem.W.Frag) (ns : List Nat) (f : SE) : TE := fun σ H Q => ∃ H0 B0 τ Fs o, RS K H0 B0 H σ τ Fs ∧ f τ = some o ∧
  ∀ v H' F, Same H H' → Rp K H' (Bor (Av B0 ns Fs) F) o v F → F.Nodup → (∀ a ∈ F, H a = none) → Q v H'
def tA (K : PySem.W.Frag) (ns : List Nat) (f : SEs) : TA := fun σ H Q => ∃ H0 B0 τ Fs os, RS K H0 B0 H σ τ Fs ∧ f τ = some os ∧
  ∀ vs H' F, Same H H' → Rps K H' (Bor (Av B0 ns Fs) F) os vs F → F.Nodup → (∀ a ∈ F, H a = none) → Q vs H'
def tT (K : PySem.W.Frag) (f : ST) : TT := fun σ H Q => ∃ H0 B0 τ Fs b, RS K H0 B0 H σ τ Fs ∧ f τ = some b ∧ ∀ H', Same H H' → Q b H'
/-- what a statement may have done -/
structure Step (Fs Fs' : List (List Addr)) (H H' : Hp) : Prop where
  ext : Ext (fun a => a ∈ Fs.flatten) H H'
  new : ∀ a ∈ Fs'.flatten, a ∈ Fs.flatten ∨ H a = none
theorem Step.refl {Fs : List (List Addr)} {H : Hp} : Step Fs Fs H H := ⟨fun _ _ _ e => e, fun _ z => .inl z⟩
theorem Step.trans {Fs Fs1 Fs2 : List (List Addr)} {H H1 H2 : Hp} (a : Step Fs Fs1 H H1) (b : Step Fs1 Fs2 H1 H2) (m : ∀ x ∈ Fs.flatten, Mut (H x)) : Step Fs Fs2 H H2 := by
  refine ⟨fun x o n e => b.ext x o (fun z => ?_) (a.ext x o n e), fun x z => ?_⟩
  · rcases a.new x z with q | q
    · exact n q
    · rw [e] at q; cases q
  · rcases b.new x z with q | q
    · exact a.new x q
    · by_cases h : x ∈ Fs.flatten
      · exact .inl h
      · refine .inr ?_
        cases e : H x with
        | none => rfl
        | some o => rw [a.ext x o h e] at q; cases q
def tS (K : PySem.W.Frag) (f : SS) : TS := fun D σ H => ∃ H0 B0 τ Fs r, RS K H0 B0 H σ τ Fs ∧ f τ = some r ∧ match r with
  | .nx τ' => ∀ σ' H' Fs', RS K H0 B0 H' σ' τ' Fs' → Step Fs Fs' H H' → D.nx σ' H'
  | .bk τ' => ∀ σ' H' Fs', RS K H0 B0 H' σ' τ' Fs' → Step Fs Fs' H H' → D.bk σ' H'
  | .ct τ' => ∀ σ' H' Fs', RS K H0 B0 H' σ' τ' Fs' → Step Fs Fs' H H' → D.ct σ' H'
  | .rt o => ∀ v H' F, Same H0 H' → Rp K H' (Bor B0 F) o v F → F.Nodup → (∀ a ∈ F, H0 a = none) → D.rt v H'
theorem _root_.L2.PE.byD {X : Cx} {e : Expr} {t t' : TE} (h : PE X e t) (i : ∀ σ H Q, t' σ H Q → t σ H Q) : PE X e t' := ⟨fun pins s σ H Q I q => h.run pins s σ H Q I (i σ H Q q)⟩
theorem _root_.L2.PT.byD {X : Cx} {e : Expr} {t t' : TT} (h : PT X e t) (i : ∀ σ H Q, t' σ H Q → t σ H Q) : PT X e t' := ⟨fun pins s σ H Q I q => h.run pins s σ H Q I (i σ H Q q)⟩
theorem _root_.L2.PW.byD {X : Cx} {e : Expr} {t t' : TT} (h : PW X e t) (i : ∀ σ H Q, t' σ H Q → t σ H Q) : PW X e t' := ⟨fun w pins s σ H Q I q => h.run w pins s σ H Q I (i σ H Q q)⟩
theorem _root_.L2.PA.byD {X : Cx} {e : List Expr} {t t' : TA} (h : PA X e t) (i : ∀ σ H Q, t' σ H Q → t σ H Q) : PA X e t' := ⟨fun pos pins s σ H Q I q => h.run pos pins s σ H Q I (i σ H Q q)⟩
theorem _root_.L2.PS.byD {X : Cx} {e : Stmt} {t t' : TS} (h : PS X e t) (i : ∀ D σ H, t' D σ H → t D σ H) : PS X e t' := ⟨fun pins s σ H D I q => h.run pins s σ H D I (i D σ H q)⟩
theorem _root_.L2.PSs.byD {X : Cx} {e : List Stmt} {t t' : TS} (h : PSs X e t) (i : ∀ D σ H, t' D σ H → t D σ H) : PSs X e t' := ⟨fun pins s σ H D I q => h.run pins s σ H D I (i D σ H q)⟩
abbrev DE (X : Cx) (ns : List Nat) (e : Expr) (f : SE) : Prop := PE X e (tE X.K ns f)
abbrev DA (X : Cx) (ns : List Nat) (e : List Expr) (f : SEs) : Prop := PA X e (tA X.K ns f)
abbrev DT (X : Cx) (e : Expr) (f : ST) : Prop := PT X e (tT X.K f)
abbrev DW (X : Cx) (e : Expr) (f : ST) : Prop := PW X e (tT X.K f)
abbrev DS (X : Cx) (e : Stmt) (f : SS) : Prop := PS X e (tS X.K f)
abbrev DSs (X : Cx) (e : List Stmt) (f : SS) : Prop := PSs X e (tS X.K f)
theorem bind_some {α β : Type} {a : Option α} {f : α → Option β} {b : β} (h : a.bind f = some b) : ∃ x, a = some x ∧ f x = some b := Option.bind_eq_some_iff.mp h
section
variable {X : Cx} {a b c e : Expr} {es : List Expr} {na nb ns ms : List Nat} {fa fb f g : SE} {fs : SEs} {pos : Pos}
/-! ### names and constants -/
theorem de_var (i : Nat) {x : Str} (hN : X.N[i]? = some x := by rfl) (hv : Vis X.env.scope x := by first | exact Or.inl rfl | exact Or.inr (Or.inl rfl) | exact Or.inr (Or.inr rfl)) (hd : (x == ("__debug__" : Str)) = false := by decide)
    (hcd : (x == ("__classdict__" : Str)) = false := by decide) : DE X [i] (.Name x pos) (xV i) := by
  refine (pe_var hN hv hd hcd).byD fun σ H Q h => ?_
  obtain ⟨H0, B0, τ, Fs, o, rs, ho, k⟩ := h
  unfold xV get at ho
  cases q : τ[i]? with
  | none => rw [q] at ho; exact nomatch ho
  | some s =>
    cases s with
    | none => rw [q] at ho; exact nomatch ho
    | some o' =>
      rw [q] at ho
      have e : Dv.frz o' = o := Option.some.inj ho
      subst e
      obtain ⟨v, h1, h2⟩ := rs.view q
      exact ⟨v, h1, k v H [] (Same.refl H) h2.nilF List.nodup_nil fun a z => nomatch z⟩
theorem de_const {v : V} {o : O} (h : PE X e (tC v)) (r : ∀ H B, Rp X.K H B o v []) : DE X [] e (xC o) := by
  refine h.byD fun σ H Q h => ?_
  obtain ⟨H0, B0, τ, Fs, o', rs, ho, k⟩ := h
  have e : o = o' := Option.some.inj ho
  subst e
  exact k v H [] (Same.refl H) (r _ _) List.nodup_nil fun a z => nomatch z
theorem de_int {i j} : DE X [] (.Constant (.int i) j pos) (xC (.int i)) := de_const pe_int fun _ _ => ⟨rfl, rfl⟩
theorem de_bl {i j} : DE X [] (.Constant (.bool i) j pos) (xC (.bl i)) := de_const pe_bl fun _ _ => ⟨rfl, rfl⟩
theorem de_non {j} : DE X [] (.Constant .none j pos) (xC .non) := de_const pe_non fun _ _ => ⟨rfl, rfl⟩
/-! ### lists of expressions -/
theorem da_nil : DA X [] [] xsN := by
  refine pa_nil.byD fun σ H Q h => ?_
  obtain ⟨H0, B0, τ, Fs, o', rs, ho, k⟩ := h
  cases ho
  exact k [] H [] (Same.refl H) ⟨rfl, rfl⟩ List.nodup_nil fun a z => nomatch z
theorem two_fresh {K : PySem.W.Frag} {B : Addr → Prop} {H H1 : Hp} {F1 F2 : List Addr} (s1 : Same H H1) (m : ∀ a ∈ F1, Mut (H1 a)) (n1 : F1.Nodup) (n2 : F2.Nodup) (f1 : ∀ a ∈ F1, H a = none) (f2 : ∀ a ∈ F2, H1 a = none) : (F1 ++ F2).Nodup ∧ ∀ a ∈ F1 ++ F2, H a = none := by
  refine ⟨List.nodup_append.mpr ⟨n1, n2, fun a z b z' e => ?_⟩, fun a z => ?_⟩
  · subst e
    exact mut_some (m a z) (f2 a z')
  · rcases List.mem_append.mp z with z | z
    · exact f1 a z
    · exact s1.free (f2 a z)
theorem two_left {K : PySem.W.Frag} {H0 H H1 H2 : Hp} {B0 : Addr → Prop} {σ : St} {τ : Sl} {Fs : List (List Addr)} {na nb : List Nat} {F1 F2 : List Addr} {o : O} {v : V} {G : List Addr} (rs : RS K H0 B0 H σ τ Fs) (s2 : Same H1 H2) (r1 : Rp K H1 (Bor (Av B0 na Fs) F1) o v G) (f2 : ∀ a ∈ F2, H1 a = none) :
    Rp K H2 (Bor (Av B0 (na ++ nb) Fs) (F1 ++ F2)) o v G := by
  refine Rp.same s2 (r1.avoid fun x ne nx z => ?_)
  rcases z with z | z
  · exact nx (.inl z.mono.1)
  · rcases List.mem_append.mp z with z | z
    · exact nx (.inr z)
    · exact ne (f2 x z)
theorem two_right {B0 : Addr → Prop} {Fs : List (List Addr)} {na nb : List Nat} {F1 F2 : List Addr} (a : Addr) (z : Bor (Av B0 (na ++ nb) Fs) (F1 ++ F2) a) : Bor (Av (Bor B0 F1) nb Fs) F2 a := by
  rcases z with z | z
  · exact .inl (z.mono.2.old fun x q => .inl q)
  · rcases List.mem_append.mp z with z | z
    · exact .inl (.inl (.inr z))
    · exact .inr z
theorem da_cons (ha : DE X na a fa) (hr : DA X ns es fs) (hs : starEach (a :: es) X.env = (false, eval a X.env) :: starEach es X.env := by rfl) : DA X (na ++ ns) (a :: es) (xsC fa fs) := by
  refine (pa_cons ha hr hs).byD fun σ H Q h => ?_
  obtain ⟨H0, B0, τ, Fs, os, rs, ho, k⟩ := h
  obtain ⟨x, hx, ho⟩ := bind_some ho
  obtain ⟨xs, hxs, ho⟩ := bind_some ho
  cases ho
  refine ⟨H0, B0, τ, Fs, x, rs, hx, fun v1 H1 F1 s1 r1 n1 f1 => ⟨H0, Bor B0 F1, τ, Fs, xs, rs.more s1 r1.own f1, hxs, fun vs H2 F2 s2 r2 n2 f2 => ?_⟩⟩
  obtain ⟨n, f⟩ := two_fresh (K := X.K) (B := B0) s1 r1.own n1 n2 f1 f2
  exact k (v1 :: vs) H2 (F1 ++ F2) (s1.trans s2) ⟨v1, vs, F1, F2, rfl, rfl, two_left rs s2 r1 f2, r2.mono two_right⟩ n f
/-- what a new object at p is -/
theorem same_upd {H : Hp} {p : Addr} {o : HO} (h : H p = none) : Same H (upd H p o) := fun b x e => by
  rw [upd_ne (ne_of_none e h)]
  exact e
theorem de_tup {x1} (h : DA X ns es fs) : DE X ns (.Tuple es x1 pos) (xTup fs) := by
  refine (pe_tup h).byD fun σ H Q h => ?_
  obtain ⟨H0, B0, τ, Fs, o, rs, ho, k⟩ := h
  obtain ⟨xs, hxs, ho⟩ := bind_some ho
  refine ⟨H0, B0, τ, Fs, xs, rs, hxs, fun vs H1 F s1 r n f => ?_⟩
  split at ho
  · rename_i hl
    cases ho
    refine ⟨by rw [← r.len]; exact hl, fun p hp => k (.ref p) _ F (s1.trans (same_upd hp)) ⟨p, vs, rfl, upd_same, r.same (same_upd hp)⟩ n f⟩
  · cases ho
theorem new_av {B : Addr → Prop} {H : Hp} {F : List Addr} {p : Addr} (hp : H p = none) (a : Addr) (ne : H a ≠ none) (n : ¬ Bor B F a) : ¬ Bor B (p :: F) a := fun z => by
  rcases z with z | z
  · exact n (.inl z)
  · rcases List.mem_cons.mp z with rfl | z
    · exact ne hp
    · exact n (.inr z)
theorem de_lst (h : DA X ns es fs) : DE X ns (.List es pos) (xLst fs) := by
  refine (pe_lst h).byD fun σ H Q h => ?_
  obtain ⟨H0, B0, τ, Fs, o, rs, ho, k⟩ := h
  obtain ⟨xs, hxs, ho⟩ := bind_some ho
  refine ⟨H0, B0, τ, Fs, xs, rs, hxs, fun vs H1 F s1 r n f => ?_⟩
  split at ho
  · rename_i hl
    cases ho
    refine ⟨by rw [← r.len]; exact hl, fun p hp => k (.ref p) _ (p :: F) (s1.trans (same_upd hp)) ⟨p, vs, F, rfl, upd_same, rfl, Rps.same (same_upd hp) (r.avoid (new_av hp))⟩ (List.nodup_cons.mpr ⟨fun z => mut_some (r.own p z) hp, n⟩) fun a z => ?_⟩
    rcases List.mem_cons.mp z with rfl | z
    · exact s1.free hp
    · exact f a z
  · cases ho
end
end Dv
end
section
set_option Elab.async false
set_option linter.all false
set_option maxRecDepth 100000
/-! Dk: operators, tests, places, built-ins, statements. -/
namespace Dv
open PySem PySem.Spec L2
open PyProof.Rows hiding St
section
variable {K : PySem.W.Frag} {B : Addr → Prop} {H H' : Hp}
theorem Rps.append : ∀ {os ps : List O} {vs ws : List V} {F G : List Addr}, Rps K H B os vs F → Rps K H B ps ws G → Rps K H B (os ++ ps) (vs ++ ws) (F ++ G)
  | [], _, _, _, _, _, h, h' => by
    obtain ⟨h1, h2⟩ := h
    subst h1 h2
    exact h'
  | o :: os, _, _, _, _, _, h, h' => by
    obtain ⟨v, vr, F1, F2, h1, h2, h3, h4⟩ := h
    subst h1 h2
    exact ⟨v, vr ++ _, F1, F2 ++ _, rfl, by rw [List.append_assoc], h3, Rps.append h4 h'⟩
/-- one of them -/
theorem Rps.at : ∀ {os : List O} {vs : List V} {F : List Addr} {j : Nat} {o : O}, Rps K H B os vs F → os[j]? = some o → ∃ v F1, vs[j]? = some v ∧ Rp K H B o v F1 ∧ F1.Sublist F
  | [], _, _, j, o, h, e => by simp at e
  | x :: os, _, _, 0, o, h, e => by
    obtain ⟨v, vr, F1, F2, h1, h2, h3, h4⟩ := h
    subst h1 h2
    have e : x = o := Option.some.inj e
    subst e
    exact ⟨v, F1, rfl, h3, List.sublist_append_left _ _⟩
  | x :: os, _, _, j + 1, o, h, e => by
    obtain ⟨v, vr, F1, F2, h1, h2, h3, h4⟩ := h
    subst h1 h2
    obtain ⟨w, G, a, b, c⟩ := Rps.at h4 (j := j) e
    exact ⟨w, G, a, b, c.trans (List.sublist_append_right _ _)⟩
theorem Rps.drop : ∀ {os : List O} {vs : List V} {F : List Addr} (j : Nat), Rps K H B os vs F → ∃ G, Rps K H B (os.drop j) (vs.drop j) G ∧ G.Sublist F
  | [], vs, F, j, h => by
    obtain ⟨h1, h2⟩ := h
    subst h1 h2
    exact ⟨[], by rw [List.drop_nil, List.drop_nil]; exact ⟨rfl, rfl⟩, List.Sublist.refl _⟩
  | x :: os, vs, F, 0, h => ⟨F, h, List.Sublist.refl _⟩
  | x :: os, vs, F, j + 1, h => by
    obtain ⟨v, vr, F1, F2, h1, h2, h3, h4⟩ := h
    subst h1 h2
    obtain ⟨G, a, b⟩ := Rps.drop j h4
    exact ⟨G, a, b.trans (List.sublist_append_right _ _)⟩
theorem Rps.take : ∀ {os : List O} {vs : List V} {F : List Addr} (j : Nat), Rps K H B os vs F → ∃ G, Rps K H B (os.take j) (vs.take j) G ∧ G.Sublist F
  | os, vs, F, 0, h => ⟨[], ⟨rfl, rfl⟩, List.nil_sublist _⟩
  | [], vs, F, j + 1, h => by
    obtain ⟨h1, h2⟩ := h
    subst h1 h2
    exact ⟨[], ⟨rfl, rfl⟩, List.Sublist.refl _⟩
  | x :: os, vs, F, j + 1, h => by
    obtain ⟨v, vr, F1, F2, h1, h2, h3, h4⟩ := h
    subst h1 h2
    obtain ⟨G, a, b⟩ := Rps.take j h4
    exact ⟨F1 ++ G, ⟨v, vr.take j, F1, G, rfl, rfl, h3, a⟩, List.Sublist.append (List.Sublist.refl _) b⟩
theorem Rps.ints : ∀ {ns : List Int} {vs : List V}, vs = ns.map V.int → Rps K H B (ns.map O.int) vs []
  | [], _, e => by subst e; exact ⟨rfl, rfl⟩
  | n :: ns, _, e => by subst e; exact ⟨.int n, ns.map V.int, [], [], rfl, rfl, ⟨rfl, rfl⟩, Rps.ints rfl⟩
theorem Rps.nilF {os : List O} {vs : List V} (h : Rps K H B os vs []) : Rps K H (Bor B []) os vs [] := h.mono fun a z => z.elim id fun q => nomatch q
theorem Rps.bls : ∀ {os : List O} {bs : List Bool} {vs : List V} {F : List Addr}, allB os = some bs → Rps K H B os vs F → vs = bs.map V.bl
  | [], bs, vs, F, e, h => by
    cases e
    exact h.1
  | o :: os, bs, vs, F, e, h => by
    obtain ⟨v, vr, F1, F2, h1, h2, h3, h4⟩ := h
    obtain ⟨b, hb, e⟩ := bind_some (show ((asB o).bind fun b => (allB os).bind fun bs => some (b :: bs)) = some bs from e)
    obtain ⟨cs, hc, e⟩ := bind_some e
    cases e
    subst h1
    have h5 := Rps.bls hc h4
    subst h5
    cases o with
    | bl b' =>
      cases hb
      obtain ⟨h6, _⟩ := h3
      subst h6
      rfl
    | _ => exact nomatch hb
end
/-- f is what r gives, for two values -/
def Op2 (K : PySem.W.Frag) (f : O → O → Option O) (r : R2) : Prop := ∀ (B : Addr → Prop) (H : Hp) (x y o : O) (v1 v2 : V) (F1 F2 : List Addr) (Q : VK), f x y = some o → Rp K H (Bor B (F1 ++ F2)) x v1 F1 → Rp K H (Bor B (F1 ++ F2)) y v2 F2 → (F1 ++ F2).Nodup → (∀ a ∈ F1 ++ F2, ¬ B a) →
  (∀ v H' F, Same H H' → Rp K H' (Bor B F) o v F → F.Nodup → (∀ a ∈ F, a ∈ F1 ++ F2 ∨ H a = none) → Q v H') → r v1 v2 H Q
/-- .. for a list of values -/
def OpN (K : PySem.W.Frag) (f : List O → Option O) (r : List V → Hp → VK → Prop) : Prop := ∀ (B : Addr → Prop) (H : Hp) (xs : List O) (o : O) (vs : List V) (F : List Addr) (Q : VK), f xs = some o → Rps K H (Bor B F) xs vs F → F.Nodup → (∀ a ∈ F, ¬ B a) →
  (∀ v H' F', Same H H' → Rp K H' (Bor B F') o v F' → F'.Nodup → (∀ a ∈ F', a ∈ F ∨ H a = none) → Q v H') → r vs H Q
section
variable {X : Cx} {a b c e : Expr} {es : List Expr} {na nb nc ns ms : List Nat} {fa fb fc f g : SE} {fs : SEs} {pos : Pos}
theorem r2_imp {r : R2} {h : O → O → Option O} (ho : Op2 X.K h r) (σ : St) (H : Hp) (Q : VK) (q : tE X.K (na ++ nb) (x2 h fa fb) σ H Q) : tOp r (tE X.K na fa) (tE X.K nb fb) σ H Q := by
  obtain ⟨H0, B0, τ, Fs, o, rs, ho', k⟩ := q
  obtain ⟨x, hx, ho'⟩ := bind_some ho'
  obtain ⟨y, hy, ho'⟩ := bind_some ho'
  refine ⟨H0, B0, τ, Fs, x, rs, hx, fun v1 H1 F1 s1 r1 n1 f1 => ⟨H0, Bor B0 F1, τ, Fs, y, rs.more s1 r1.own f1, hy, fun v2 H2 F2 s2 r2 n2 f2 => ?_⟩⟩
  obtain ⟨n, ff⟩ := two_fresh (K := X.K) (B := B0) s1 r1.own n1 n2 f1 f2
  refine ho (Av B0 (na ++ nb) Fs) H2 x y o v1 v2 F1 F2 Q ho' (two_left rs s2 r1 f2) (r2.mono two_right) n (fun a z => avB rs (ff a z)) fun v H' F s r n' f' => k v H' F ((s1.trans s2).trans s) r n' fun a z => ?_
  rcases f' a z with z | z
  · exact ff a z
  · exact s1.free (s2.free z)
theorem de_2 {op : Operator} {r : R2} {h : O → O → Option O} (hr : OpR X (binaryOp op) r) (ho : Op2 X.K h r) (ha : DE X na a fa) (hb : DE X nb b fb) : DE X (na ++ nb) (.BinOp a op b pos) (x2 h fa fb) :=
  (pe_op hr ha hb).byD fun σ H Q q => r2_imp ho σ H Q q
theorem de_cmp {op : CmpOp} {r : R2} {h : O → O → Option O} (hr : OpR X (compareOp op) r) (ho : Op2 X.K h r) (ha : DE X na a fa) (hb : DE X nb b fb) (hm : behindInMarks op b = false) : DE X (na ++ nb) (.Compare a [op] [b] pos) (x2 h fa fb) :=
  (pe_cmpR hr ha hb hm).byD fun σ H Q q => r2_imp ho σ H Q q
/-- an answer that is True or False -/
theorem tE_bl {ns : List Nat} {f : SE} (σ : St) (H : Hp) (Q : Bool → Hp → Prop) (q : tT X.K (tOf f) σ H Q) : tE X.K ns f σ H (fun x H' => ∃ k, x = .bl k ∧ Q k H') := by
  obtain ⟨H0, B0, τ, Fs, b, rs, hb, k⟩ := q
  obtain ⟨o, ho, hb⟩ := bind_some hb
  refine ⟨H0, B0, τ, Fs, o, rs, ho, fun v H' F s r n f => ?_⟩
  cases o with
  | bl b' =>
    cases hb
    obtain ⟨h1, _⟩ := r
    exact ⟨b, h1, k H' s⟩
  | _ => exact nomatch hb
theorem dt_cmp {op : CmpOp} {r : R2} {h : O → O → Option O} (hr : OpR X (compareOp op) r) (ho : Op2 X.K h r) (ha : DE X na a fa) (hb : DE X nb b fb) (hm : behindInMarks op b = false) : DT X (.Compare a [op] [b] pos) (tOf (x2 h fa fb)) :=
  (pt_cmpR hr ha hb hm).byD fun σ H Q q => r2_imp ho σ H _ (tE_bl (ns := na ++ nb) σ H Q q)
/-- an expression as a test -/
theorem dt_val (h : DE X ns e f) (he : ∀ whole, isTrue e X.env whole = (do let v ← whole; standAt e.pos; holding [v] (truthy v)) := by intro _; rfl) : DT X e (tOf f) :=
  (pt_val h he).byD fun σ H Q q => tE_bl σ H Q q
theorem dt_not {ta : ST} (h : DT X a ta) : DT X (.UnaryOp .Not a pos) (Dv.tNot ta) := by
  refine (pt_not h).byD fun σ H Q q => ?_
  obtain ⟨H0, B0, τ, Fs, b, rs, hb, k⟩ := q
  obtain ⟨x, hx, hb⟩ := bind_some hb
  cases hb
  exact ⟨H0, B0, τ, Fs, x, rs, hx, k⟩
theorem dw_pt {t : ST} (h : DW X e t) : DT X e t := PW.pt h
theorem dw_and1 {t : ST} (h : DT X a t) : DW X (.BoolOp .And [a] pos) t := pw_and1 h
theorem dw_or1 {t : ST} (h : DT X a t) : DW X (.BoolOp .Or [a] pos) t := pw_or1 h
theorem dw_and {t u : ST} {rest : List Expr} (ha : DT X a t) (hb : DW X (.BoolOp .And (b :: rest) pos) u) : DW X (.BoolOp .And (a :: b :: rest) pos) (Dv.tAnd t u) := by
  refine (pw_and ha hb).byD fun σ H Q q => ?_
  obtain ⟨H0, B0, τ, Fs, r, rs, hr, k⟩ := q
  obtain ⟨x, hx, hr⟩ := bind_some hr
  refine ⟨H0, B0, τ, Fs, x, rs, hx, fun H1 s1 => ?_⟩
  cases x with
  | true => exact iteT ⟨H0, B0, τ, Fs, r, rs.go s1, hr, fun H2 s2 => k H2 (s1.trans s2)⟩
  | false =>
    cases hr
    exact iteF (k H1 s1)
theorem dw_or {t u : ST} {rest : List Expr} (ha : DT X a t) (hb : DW X (.BoolOp .Or (b :: rest) pos) u) : DW X (.BoolOp .Or (a :: b :: rest) pos) (Dv.tOr t u) := by
  refine (pw_or ha hb).byD fun σ H Q q => ?_
  obtain ⟨H0, B0, τ, Fs, r, rs, hr, k⟩ := q
  obtain ⟨x, hx, hr⟩ := bind_some hr
  refine ⟨H0, B0, τ, Fs, x, rs, hx, fun H1 s1 => ?_⟩
  cases x with
  | true =>
    cases hr
    exact iteT (k H1 s1)
  | false => exact iteF ⟨H0, B0, τ, Fs, r, rs.go s1, hr, fun H2 s2 => k H2 (s1.trans s2)⟩
/-- and, or, not as values: of True and False -/
theorem de_one {op} (h : DE X ns a f) : DE X ns (.BoolOp op [a] pos) f := pe_one h
theorem fin_blD {B0 : Addr → Prop} {Fs : List (List Addr)} {ns : List Nat} {H : Hp} {k : Bool} {Q : VK} {H' : Hp} (s : Same H H') (h : ∀ v H' F, Same H H' → Rp X.K H' (Bor (Av B0 ns Fs) F) (.bl k) v F → F.Nodup → (∀ a ∈ F, H a = none) → Q v H') : Q (.bl k) H' :=
  h (.bl k) H' [] s ⟨rfl, rfl⟩ List.nodup_nil fun a z => nomatch z
theorem de_and {rest : List Expr} (ha : DE X na a fa) (hb : DE X nb (.BoolOp .And (b :: rest) pos) fb) : DE X (na ++ nb) (.BoolOp .And (a :: b :: rest) pos) (xAnd fa fb) := by
  refine (pe_and ha hb).byD fun σ H Q q => ?_
  obtain ⟨H0, B0, τ, Fs, o, rs, ho, k⟩ := q
  obtain ⟨x, hx, ho⟩ := bind_some ho
  obtain ⟨y, hy, hx⟩ := bind_some hx
  refine ⟨H0, B0, τ, Fs, y, rs, hy, fun v1 H1 F1 s1 r1 n1 f1 => ?_⟩
  cases y with
  | bl z =>
    cases hx
    obtain ⟨e1, _⟩ := r1
    refine ⟨x, e1, ?_⟩
    cases x with
    | true => exact iteT ⟨H0, B0, τ, Fs, o, rs.go s1, ho, fun v H2 F s2 r n f => k v H2 F (s1.trans s2) (r.mono fun a z => z.imp (fun q => q.mono.2) id) n fun a z => s1.free (f a z)⟩
    | false =>
      cases ho
      exact iteF (fin_blD s1 k)
  | _ => exact nomatch hx
/-- a one-place operation -/
theorem de_neg (ha : DE X na a fa) : DE X na (.UnaryOp .USub a pos) (x1 negD fa) := by
  refine (pe_un un_neg ha).byD fun σ H Q q => ?_
  obtain ⟨H0, B0, τ, Fs, o, rs, ho, k⟩ := q
  obtain ⟨x, hx, ho⟩ := bind_some ho
  refine ⟨H0, B0, τ, Fs, x, rs, hx, fun v1 H1 F1 s1 r1 n1 f1 => ?_⟩
  cases x with
  | int i =>
    cases ho
    obtain ⟨e1, _⟩ := r1
    exact ⟨i, e1, k _ H1 [] s1 ⟨rfl, rfl⟩ List.nodup_nil fun a z => nomatch z⟩
  | _ => exact nomatch ho
end
/-! ### the operators -/
section
variable {K : PySem.W.Frag} {X : Cx}
theorem done0 {B : Addr → Prop} {H : Hp} {o : O} {v : V} {G : List Addr} {Q : VK} (k : ∀ v H' F, Same H H' → Rp K H' (Bor B F) o v F → F.Nodup → (∀ a ∈ F, a ∈ G ∨ H a = none) → Q v H') (r : Rp K H B o v []) : Q v H := k v H [] (Same.refl H) r.nilF List.nodup_nil fun a z => nomatch z
theorem op2_ii {f : O → O → Option O} {C : Int → Int → Prop} {g : Int → Int → V} (h : ∀ x y o, f x y = some o → ∃ i j, x = .int i ∧ y = .int j ∧ C i j ∧ ∀ H B, Rp K H B o (g i j) []) : Op2 K f (rI C g) := by
  intro B H x y o v1 v2 F1 F2 Q e r1 r2 _ _ k
  obtain ⟨i, j, rfl, rfl, c, r⟩ := h x y o e
  obtain ⟨e1, _⟩ := r1
  obtain ⟨e2, _⟩ := r2
  exact ⟨i, j, e1, e2, c, done0 k (r _ _)⟩
theorem op2_i0 {f : O → O → Option O} {g : Int → Int → V} (h : ∀ x y o, f x y = some o → ∃ i j, x = .int i ∧ y = .int j ∧ ∀ H B, Rp K H B o (g i j) []) : Op2 K f (rI0 g) := by
  intro B H x y o v1 v2 F1 F2 Q e r1 r2 _ _ k
  obtain ⟨i, j, rfl, rfl, r⟩ := h x y o e
  obtain ⟨e1, _⟩ := r1
  obtain ⟨e2, _⟩ := r2
  exact ⟨i, j, e1, e2, done0 k (r _ _)⟩
theorem o_sub : Op2 K subD (rI0 fun i j => .int (i - j)) := op2_i0 fun x y o e => by
  cases x <;> cases y <;> first | (cases e; done) | (cases e; exact ⟨_, _, rfl, rfl, fun _ _ => ⟨rfl, rfl⟩⟩)
theorem o_mul : Op2 K mulD (rI CMulW fun i j => .int (i * j)) := op2_ii fun x y o e => by
  cases x <;> cases y <;> first | (cases e; done) | skip
  rename_i i j
  simp only [mulD] at e
  by_cases h : mulOk i j = true
  · rw [if_pos h] at e
    cases e
    exact ⟨_, _, rfl, rfl, (by unfold mulOk at h; rw [decide_eq_true_eq] at h; exact h), fun _ _ => ⟨rfl, rfl⟩⟩
  · rw [if_neg h] at e; cases e
theorem o_fdiv : Op2 K fdivD (rI CDivW fun i j => .int (i / j)) := op2_ii fun x y o e => by
  cases x <;> cases y <;> first | (cases e; done) | skip
  rename_i i j
  simp only [fdivD] at e
  by_cases h : divOk j = true
  · rw [if_pos h] at e
    cases e
    unfold divOk at h
    rw [Bool.and_eq_true, decide_eq_true_eq, decide_eq_true_eq] at h
    exact ⟨_, _, rfl, rfl, h, fun _ _ => ⟨rfl, rfl⟩⟩
  · rw [if_neg h] at e; cases e
theorem o_mod : Op2 K modD (rI (fun _ j => 0 < j) fun i j => .int (i % j)) := op2_ii fun x y o e => by
  cases x <;> cases y <;> first | (cases e; done) | skip
  rename_i i j
  simp only [modD] at e
  by_cases h : 0 < j
  · rw [if_pos h] at e
    cases e
    exact ⟨_, _, rfl, rfl, h, fun _ _ => ⟨rfl, rfl⟩⟩
  · rw [if_neg h] at e; cases e
theorem o_pow : Op2 K powD (rI CPow fun i j => .int (i ^ j.toNat)) := op2_ii fun x y o e => by
  cases x <;> cases y <;> first | (cases e; done) | skip
  rename_i i j
  simp only [powD] at e
  by_cases h : powOk i j = true
  · rw [if_pos h] at e
    cases e
    unfold powOk at h
    rw [Bool.and_eq_true, Bool.and_eq_true, decide_eq_true_eq, decide_eq_true_eq, decide_eq_true_eq] at h
    exact ⟨_, _, rfl, rfl, ⟨h.1.1, by omega, h.2⟩, fun _ _ => ⟨rfl, rfl⟩⟩
  · rw [if_neg h] at e; cases e
theorem o_cmpI {p : Int → Int → Bool} : Op2 K (cmpI p) (rI0 fun i j => .bl (p i j)) := op2_i0 fun x y o e => by
  cases x <;> cases y <;> first | (cases e; done) | (cases e; exact ⟨_, _, rfl, rfl, fun _ _ => ⟨rfl, rfl⟩⟩)
/-- a list, of either kind, stands -/
theorem Rp.lst_at {B : Addr → Prop} {H : Hp} {own : Bool} {xs : List O} {v : V} {F : List Addr} (h : Rp K H B (.lst own xs) v F) : ∃ a vs G, v = .ref a ∧ H a = some (.lst vs) ∧ Rps K H B xs vs G ∧ G.Sublist F ∧ (own = true → a ∈ F ∧ F = a :: G) ∧ (own = false → ¬ B a) := by
  cases own with
  | false =>
    obtain ⟨a, vs, h1, h2, h3, rfl, h5⟩ := h
    exact ⟨a, vs, [], h1, h2, h5, List.Sublist.refl _, (fun z => nomatch z), fun _ => h3⟩
  | true =>
    obtain ⟨a, vs, G, h1, h2, rfl, h4⟩ := h
    exact ⟨a, vs, G, h1, h2, h4, List.sublist_cons_self _ _, fun _ => ⟨List.mem_cons_self, rfl⟩, (fun z => nomatch z)⟩
/-- a new own list -/
theorem new_lst {B : Addr → Prop} {H : Hp} {os : List O} {vs : List V} {G : List Addr} {p : Addr} (hp : H p = none) (r : Rps K H (Bor B G) os vs G) (n : G.Nodup) : Rp K (upd H p (.lst vs)) (Bor B (p :: G)) (.lst true os) (.ref p) (p :: G) ∧ (p :: G).Nodup :=
  ⟨⟨p, vs, G, rfl, upd_same, rfl, Rps.same (same_upd hp) (r.avoid (new_av hp))⟩, List.nodup_cons.mpr ⟨fun z => mut_some (r.own p z) hp, n⟩⟩
def rAddAny (K : PySem.W.Frag) : R2 := fun x y H Q => (rI0 (fun i j => .int (i + j)) x y H Q ∨ (∃ i k, x = .int i ∧ y = .bl k ∧ Q (.int (i + b2i k)) H)) ∨ rCatA K x y H Q ∨ rCat x y H Q ∨ (∃ i j, x = .str i ∧ y = .str j ∧ i.length + j.length ≤ sizeLine ∧ Q (.str (i ++ j)) H)
theorem r_add : OpR X (binaryOp .Add) (rAddAny X.K) := (op_add.or op_add_ib).or (op_catA.or (op_cat.or op_add_str))
theorem o_add : Op2 K addD (rAddAny K) := by
  intro B H x y o v1 v2 F1 F2 Q e r1 r2 nd av k
  cases x <;> cases y <;> first | (cases e; done) | skip
  · cases e
    obtain ⟨e1, _⟩ := r1
    obtain ⟨e2, _⟩ := r2
    exact .inl (.inr ⟨_, _, e1, e2, done0 k ⟨rfl, rfl⟩⟩)
  · cases e
    obtain ⟨e1, _⟩ := r1
    obtain ⟨e2, _⟩ := r2
    exact .inl (.inl ⟨_, _, e1, e2, done0 k ⟨rfl, rfl⟩⟩)
  · rename_i x y
    obtain ⟨e1, _⟩ := r1
    obtain ⟨e2, _⟩ := r2
    simp only [addD] at e
    by_cases h : x.length + y.length ≤ sLine
    · rw [if_pos h] at e
      cases e
      exact .inr (.inr (.inr ⟨_, _, e1, e2, h, done0 k ⟨rfl, rfl⟩⟩))
    · rw [if_neg h] at e; cases e
  · rename_i xs ys
    simp only [addD] at e
    by_cases h : xs.length + ys.length ≤ sLine
    · rw [if_pos h] at e
      cases e
      obtain ⟨a, vs, e1, h1, q1⟩ := r1
      obtain ⟨b, ws, e2, h2, q2⟩ := r2
      have q := q1.append q2
      refine .inr (.inl ⟨a, b, vs, ws, e1, e2, SqT.of h1, SqT.of h2, by rw [← q1.len, ← q2.len]; exact h, fun z => ?_, fun z z2 => ?_, fun _ _ p hp => ?_⟩)
      · subst z
        exact k (.ref b) H (F1 ++ F2) (Same.refl H) ⟨b, ws, rfl, h2, q⟩ nd fun a z => .inl z
      · subst z2
        rw [List.append_nil] at q
        exact k (.ref a) H (F1 ++ F2) (Same.refl H) ⟨a, vs, rfl, h1, q⟩ nd fun a z => .inl z
      · exact k (.ref p) _ (F1 ++ F2) (same_upd hp) ⟨p, vs ++ ws, rfl, upd_same, q.same (same_upd hp)⟩ nd fun a z => .inl z
    · rw [if_neg h] at e; cases e
  · rename_i o1 xs o2 ys
    simp only [addD] at e
    by_cases h : xs.length + ys.length ≤ sLine
    · rw [if_pos h] at e
      cases e
      obtain ⟨a, vs, G1, e1, h1, q1, sb1, _⟩ := r1.lst_at
      obtain ⟨b, ws, G2, e2, h2, q2, sb2, _⟩ := r2.lst_at
      have q := ((q1.mono fun _ => Or.inl).frz fun a z => av a (List.mem_append_left _ (sb1.subset z))).append ((q2.mono fun _ => Or.inl).frz fun a z => av a (List.mem_append_right _ (sb2.subset z)))
      refine .inr (.inr (.inl ⟨a, b, vs, ws, e1, e2, h1, h2, by rw [← q1.len, ← q2.len]; exact h, fun p hp => ?_⟩))
      obtain ⟨n1, n2⟩ := new_lst hp q.nilF List.nodup_nil
      exact k (.ref p) _ [p] (same_upd hp) n1 n2 fun a z => .inr (by rw [List.mem_singleton.mp z]; exact hp)
    · rw [if_neg h] at e; cases e
/-! ### == of data -/
mutual
def toPy : O → PyData
  | .non => .none
  | .bl b => .bool b
  | .int i => .int i
  | .str x => .str x
  | .tup xs => .tuple (toPys xs)
  | .kt ns => .tuple (ns.map .int)
  | .lst _ xs => .list (toPys xs)
  | .dK _ _ _ => .dict []
  | .dT _ _ _ => .dict []
  | .scr _ => .dict []
  | .anc _ => .dict []
def toPys : List O → List PyData
  | [] => []
  | x :: xs => toPy x :: toPys xs
end
theorem kt_lay : ∀ ns : List Int, PyData.canLayAll0 (ns.map PyData.int) = true ∧ PyData.depthAll (ns.map PyData.int) = 0
  | [] => ⟨rfl, rfl⟩
  | n :: ns => by
    obtain ⟨a, b⟩ := kt_lay ns
    refine ⟨?_, ?_⟩
    · show ((PyData.int n).canLay0 && PyData.canLayAll0 (ns.map PyData.int)) = true
      rw [a]; rfl
    · show max (PyData.int n).depth (PyData.depthAll (ns.map PyData.int)) = 0
      rw [b]; rfl
theorem kt_dp {K : PySem.W.Frag} {H : Hp} : ∀ ns : List Int, DpAll K H (ns.map V.int) (ns.map PyData.int)
  | [] => .nil
  | n :: ns => .cons (.int n) (kt_dp ns)
theorem shs_of : ∀ {n : Nat} {xs : List O}, (∀ {x : O}, shO n x = true → (toPy x).canLay0 = true ∧ (toPy x).depth ≤ n) → xs.all (shO n) = true → PyData.canLayAll0 (toPys xs) = true ∧ PyData.depthAll (toPys xs) ≤ n
  | n, [], _, _ => ⟨rfl, Nat.zero_le _⟩
  | n, x :: xs, ih, h => by
    rw [List.all_cons, Bool.and_eq_true] at h
    obtain ⟨a, b⟩ := ih h.1
    obtain ⟨c, d⟩ := shs_of ih h.2
    refine ⟨?_, ?_⟩
    · show ((toPy x).canLay0 && PyData.canLayAll0 (toPys xs)) = true
      rw [a, c]; rfl
    · show max (toPy x).depth (PyData.depthAll (toPys xs)) ≤ n
      omega
theorem sh_of : ∀ (n : Nat) {x : O}, shO n x = true → (toPy x).canLay0 = true ∧ (toPy x).depth ≤ n
  | n, .non, _ => ⟨rfl, Nat.zero_le _⟩
  | n, .bl _, _ => ⟨rfl, Nat.zero_le _⟩
  | n, .int _, _ => ⟨rfl, Nat.zero_le _⟩
  | n, .str x, h => by cases n <;> exact ⟨h, Nat.zero_le _⟩
  | n + 1, .tup xs, h => by
    obtain ⟨a, b⟩ := shs_of (sh_of n) (show xs.all (shO n) = true from h)
    exact ⟨a, Nat.succ_le_succ b⟩
  | n + 1, .lst _ xs, h => by
    obtain ⟨a, b⟩ := shs_of (sh_of n) (show xs.all (shO n) = true from h)
    exact ⟨a, Nat.succ_le_succ b⟩
  | n + 1, .kt ns, _ => ⟨(kt_lay ns).1, by show (PyData.depthAll (ns.map PyData.int)) + 1 ≤ n + 1; rw [(kt_lay ns).2]; omega⟩
  | 0, .kt _, h => nomatch h
  | 0, .tup xs, h => nomatch h
  | 0, .lst _ xs, h => nomatch h
  | 0, .dK _ _ _, h => nomatch h
  | n + 1, .dK _ _ _, h => nomatch h
  | 0, .dT _ _ _, h => nomatch h
  | n + 1, .dT _ _ _, h => nomatch h
  | 0, .scr _, h => nomatch h
  | n + 1, .scr _, h => nomatch h
  | 0, .anc _, h => nomatch h
  | n + 1, .anc _, h => nomatch h
theorem shaped_of {x : O} (h : shO 20 x = true) : SeqAt.shaped (toPy x) = true := by
  obtain ⟨a, b⟩ := sh_of 20 h
  unfold SeqAt.shaped
  rw [a, decide_eq_true (by omega)]
  rfl
mutual
theorem Rp.dp {B : Addr → Prop} {H : Hp} : ∀ {o : O} {v : V} {F : List Addr} {n : Nat}, shO n o = true → Rp K H B o v F → Dp K H v (toPy o)
  | .non, _, _, _, _, h => by rw [h.1]; exact .non
  | .bl _, _, _, _, _, h => by rw [h.1]; exact .bl _
  | .int _, _, _, _, _, h => by rw [h.1]; exact .int _
  | .str _, _, _, _, _, h => by rw [h.1]; exact .str _
  | .tup xs, v, F, n + 1, c, h => by
    obtain ⟨a, vs, h1, h2, h3⟩ := h
    rw [h1]
    exact .tup (SqT.of h2) (Rps.dp (show xs.all (shO n) = true from c) h3)
  | .lst own xs, v, F, n + 1, c, h => by
    cases own with
    | false =>
      obtain ⟨a, vs, h1, h2, h3, rfl, h5⟩ := h
      rw [h1]
      exact .lst (SqL.of h2) (Rps.dp (show xs.all (shO n) = true from c) h5)
    | true =>
      obtain ⟨a, vs, G, h1, h2, rfl, h4⟩ := h
      rw [h1]
      exact .lst (SqL.of h2) (Rps.dp (show xs.all (shO n) = true from c) h4)
  | .kt ns, v, F, n + 1, c, h => by
    obtain ⟨a, h1, _, h3⟩ := h
    rw [h1]
    exact .tup (h3.sq H) (kt_dp ns)
  | .kt _, v, F, 0, c, h => nomatch c
  | .tup xs, v, F, 0, c, h => nomatch c
  | .lst _ xs, v, F, 0, c, h => nomatch c
  | .dK _ _ _, v, F, 0, c, h => nomatch c
  | .dT _ _ _, v, F, 0, c, h => nomatch c
  | .scr _, v, F, 0, c, h => nomatch c
  | .anc _, v, F, 0, c, h => nomatch c
  | .dK _ _ _, v, F, n + 1, c, h => nomatch c
  | .dT _ _ _, v, F, n + 1, c, h => nomatch c
  | .scr _, v, F, n + 1, c, h => nomatch c
  | .anc _, v, F, n + 1, c, h => nomatch c
theorem Rps.dp {B : Addr → Prop} {H : Hp} : ∀ {os : List O} {vs : List V} {F : List Addr} {n : Nat}, os.all (shO n) = true → Rps K H B os vs F → DpAll K H vs (toPys os)
  | [], _, _, _, _, h => by rw [h.1]; exact .nil
  | o :: os, _, _, n, c, h => by
    obtain ⟨v, vr, F1, F2, h1, h2, h3, h4⟩ := h
    subst h1 h2
    rw [List.all_cons, Bool.and_eq_true] at c
    exact .cons (Rp.dp c.1 h3) (Rps.dp c.2 h4)
end
theorem eqK_py : ∀ (is : List Int) (ys : List O), PyData.eqvAll (is.map PyData.int) (toPys ys) = eqK is ys
  | [], [] => rfl
  | [], _ :: _ => rfl
  | _ :: _, [] => rfl
  | i :: is, y :: ys => by
    show (PyData.eqv (PyData.int i) (toPy y) && PyData.eqvAll (is.map PyData.int) (toPys ys)) = _
    rw [eqK_py is ys]
    cases y <;> first | rfl | (cases ‹Bool› <;> rfl)
theorem eqK'_py : ∀ (xs : List O) (js : List Int), PyData.eqvAll (toPys xs) (js.map PyData.int) = eqK' xs js
  | [], [] => rfl
  | [], _ :: _ => rfl
  | _ :: _, [] => by simp [toPys, PyData.eqvAll]
  | x :: xs, j :: js => by
    show (PyData.eqv (toPy x) (PyData.int j) && PyData.eqvAll (toPys xs) (js.map PyData.int)) = _
    rw [eqK'_py xs js]
    cases x <;> first | rfl | (cases ‹Bool› <;> rfl)
theorem eqKK_py : ∀ (is js : List Int), PyData.eqvAll (is.map PyData.int) (js.map PyData.int) = eqKK is js
  | [], [] => rfl
  | [], _ :: _ => rfl
  | _ :: _, [] => rfl
  | i :: is, j :: js => by
    show (PyData.eqv (PyData.int i) (PyData.int j) && PyData.eqvAll (is.map PyData.int) (js.map PyData.int)) = _
    rw [eqKK_py is js]; rfl
mutual
theorem eqo_py : ∀ {n m : Nat} (x y : O), shO n x = true → shO m y = true → PyData.eqv (toPy x) (toPy y) = eqo x y
  | n, m, x, y, hx, hy => by
    cases x <;> cases y <;> first
      | rfl
      | (cases n <;> cases hx <;> done)
      | (cases m <;> cases hy <;> done)
      | skip
    · rename_i xs ys
      cases n with
      | zero => exact nomatch hx
      | succ n => cases m with
        | zero => exact nomatch hy
        | succ m => exact eqos_py xs ys hx hy
    · exact eqK'_py _ _
    · exact eqK_py _ _
    · exact eqKK_py _ _
    · rename_i o1 xs o2 ys
      cases n with
      | zero => exact nomatch hx
      | succ n => cases m with
        | zero => exact nomatch hy
        | succ m => exact eqos_py xs ys hx hy
theorem eqos_py : ∀ {n m : Nat} (xs ys : List O), xs.all (shO n) = true → ys.all (shO m) = true → PyData.eqvAll (toPys xs) (toPys ys) = eqos xs ys
  | _, _, [], [], _, _ => rfl
  | _, _, [], _ :: _, _, _ => rfl
  | _, _, _ :: _, [], _, _ => rfl
  | n, m, x :: xs, y :: ys, hx, hy => by
    rw [List.all_cons, Bool.and_eq_true] at hx hy
    show (PyData.eqv (toPy x) (toPy y) && PyData.eqvAll (toPys xs) (toPys ys)) = (eqo x y && eqos xs ys)
    rw [eqo_py x y hx.1 hy.1, eqos_py xs ys hx.2 hy.2]
end
end
end Dv
end
section
set_option Elab.async false
set_option linter.all false
set_option maxRecDepth 100000
/-! Dl: places, slices, built-ins, calls, walks, loops, comprehensions, defs. -/
namespace Dv
open PySem PySem.Spec L2
open PyProof.Rows hiding St
section
variable {K : PySem.W.Frag} {X : Cx} {a b c e : Expr} {es : List Expr} {na nb nc ns ms : List Nat} {fa fb fc f g : SE} {fs : SEs} {pos : Pos}
theorem o_eq : Op2 K eqD (rEqD K) := by
  intro B H x y o v1 v2 F1 F2 Q e r1 r2 nd av k
  unfold eqD at e
  by_cases h : (shO 20 x && shO 20 y) = true
  · rw [if_pos h] at e
    cases e
    rw [Bool.and_eq_true] at h
    exact ⟨toPy x, toPy y, r1.dp h.1, r2.dp h.2, shaped_of h.1, shaped_of h.2, by rw [eqo_py x y h.1 h.2]; exact done0 k ⟨rfl, rfl⟩⟩
  · rw [if_neg h] at e; cases e
theorem o_ne : Op2 K neD (rNeD K) := by
  intro B H x y o v1 v2 F1 F2 Q e r1 r2 nd av k
  unfold neD at e
  by_cases h : (shO 20 x && shO 20 y) = true
  · rw [if_pos h] at e
    cases e
    rw [Bool.and_eq_true] at h
    exact ⟨toPy x, toPy y, r1.dp h.1, r2.dp h.2, shaped_of h.1, shaped_of h.2, by rw [eqo_py x y h.1 h.2]; exact done0 k ⟨rfl, rfl⟩⟩
  · rw [if_neg h] at e; cases e
theorem isN_rp {B : Addr → Prop} {H : Hp} {x o : O} {v : V} {F : List Addr} (h : isND x = some o) (r : Rp K H B x v F) : o = .bl (decide (v = .non)) := by
  cases x with
  | non => obtain ⟨h1, _⟩ := r; subst h1; cases h; simp
  | bl _ => obtain ⟨h1, _⟩ := r; subst h1; cases h; simp
  | int _ => obtain ⟨h1, _⟩ := r; subst h1; cases h; simp
  | str _ => obtain ⟨h1, _⟩ := r; subst h1; cases h; simp
  | scr _ => cases h
  | anc _ => cases h
  | tup _ => obtain ⟨_, _, h1, _⟩ := r; subst h1; cases h; simp
  | kt _ => obtain ⟨_, h1, _⟩ := r; subst h1; cases h; simp
  | lst own _ => cases own <;> (cases h) <;> first | (obtain ⟨_, _, h1, _⟩ := r; subst h1; simp) | (obtain ⟨_, _, _, h1, _⟩ := r; subst h1; simp)
  | dK own _ _ => cases own <;> (cases h) <;> first | (obtain ⟨_, _, h1, _⟩ := r; subst h1; simp) | (obtain ⟨_, _, _, h1, _⟩ := r; subst h1; simp)
  | dT own _ _ => cases own <;> (cases h) <;> first | (obtain ⟨_, _, h1, _⟩ := r; subst h1; simp) | (obtain ⟨_, _, _, h1, _⟩ := r; subst h1; simp)
theorem notN_of {x : O} {o : O} (h : notND x = some o) : ∃ k, isND x = some (.bl k) ∧ o = .bl (!k) := by
  cases x <;> first | (cases h; done) | (cases h; exact ⟨_, rfl, rfl⟩)
theorem o_notN : Op2 K notN2 (fun x y H Q => y = .non ∧ Q (.bl (!decide (x = .non))) H) := by
  intro B H x y o v1 v2 F1 F2 Q e r1 r2 nd av k
  cases y <;> first | (cases e; done) | skip
  obtain ⟨e2, _⟩ := r2
  obtain ⟨b, h1, h2⟩ := notN_of (show notND x = some o from e)
  have h := isN_rp h1 r1
  cases h
  subst h2
  exact ⟨e2, done0 k ⟨rfl, rfl⟩⟩
/-! ### places -/
theorem at_ixN {α : Type} {xs : List α} {i : Int} {o : α} (h : at? xs i = some o) : ∃ j, ixN xs.length i = some j ∧ xs[j]? = some o := by
  unfold at? at h
  by_cases h0 : 0 ≤ i
  · rw [if_pos h0] at h
    obtain ⟨h1, _⟩ := List.getElem?_eq_some_iff.mp h
    refine ⟨i.toNat, ?_, h⟩
    unfold ixN
    rw [if_pos h0, if_pos (by omega)]
  · rw [if_neg h0] at h
    by_cases h1 : -(xs.length : Int) ≤ i
    · rw [if_pos h1] at h
      refine ⟨(i + xs.length).toNat, ?_, h⟩
      unfold ixN
      rw [if_neg h0, if_pos h1]
    · rw [if_neg h1] at h; cases h
theorem atI_rp {B : Addr → Prop} {H : Hp} {xs : List O} {vs : List V} {F : List Addr} {i : Int} {o : O} (r : Rps K H B xs vs F) (h : at? xs i = some o) : ∃ v F1, atI vs i = some v ∧ Rp K H B o v F1 ∧ F1.Sublist F := by
  obtain ⟨j, h1, h2⟩ := at_ixN h
  obtain ⟨v, F1, e1, e2, e3⟩ := r.at h2
  refine ⟨v, F1, ?_, e2, e3⟩
  unfold atI
  rw [← r.len, h1]
  exact e1
def rIxD (K : PySem.W.Frag) : R2 := fun x y H Q => rIxL K x y H Q ∨ rIxT K x y H Q
theorem ix_D : IxR X (rIxD X.K) := ix_list.or ix_tup
theorem o_ix : Op2 K ixD (rIxD K) := by
  intro B H x y o v1 v2 F1 F2 Q e r1 r2 nd av k
  have nd1 : F1.Nodup := (List.nodup_append.mp nd).1
  cases x <;> cases y <;> first | (cases e; done) | skip
  · rename_i xs i
    obtain ⟨a, vs, e1, h1, q1⟩ := r1
    obtain ⟨e2, _⟩ := r2
    obtain ⟨v, G, h2, h3, h4⟩ := atI_rp q1 (show at? xs i = some o from e)
    exact .inr ⟨a, vs, i, v, e1, e2, (SqT.of h1), h2, k v H G (Same.refl H) (h3.mono fun z q => q.imp id fun q => List.mem_append_left _ (h4.subset q)) (h4.nodup nd1) fun z q => .inl (List.mem_append_left _ (h4.subset q))⟩
  · rename_i ns i
    obtain ⟨a, e1, _, h1⟩ := r1
    obtain ⟨e2, _⟩ := r2
    obtain ⟨z, hz, e⟩ : ∃ z, at? ns i = some z ∧ O.int z = o := by
      cases q : at? ns i with
      | none => simp [q] at e
      | some z => simp [q] at e; exact ⟨z, rfl, e⟩
    subst e
    obtain ⟨j, hj1, hj2⟩ := at_ixN hz
    refine .inr ⟨a, ns.map V.int, i, .int z, e1, e2, h1.sq H, ?_, done0 k ⟨rfl, rfl⟩⟩
    unfold atI
    rw [List.length_map, hj1]
    show (ns.map V.int)[j]? = _
    rw [List.getElem?_map, hj2]; rfl
  · rename_i own xs i
    obtain ⟨a, vs, G1, e1, h1, q1, sb, _⟩ := r1.lst_at
    obtain ⟨e2, _⟩ := r2
    obtain ⟨v, G, h2, h3, h4⟩ := atI_rp q1 (show at? xs i = some o from e)
    have h5 := h4.trans sb
    exact .inl ⟨a, vs, i, v, e1, e2, SqL.of h1, h2, k v H G (Same.refl H) (h3.mono fun z q => q.imp id fun q => List.mem_append_left _ (h5.subset q)) (h5.nodup nd1) fun z q => .inl (List.mem_append_left _ (h5.subset q))⟩
theorem de_ix (ha : DE X na a fa) (hb : DE X nb b fb) (hs : PlainIx b) : DE X (na ++ nb) (.Subscript a b pos) (x2 ixD fa fb) :=
  (pe_ix ix_D ha hb hs).byD fun σ H Q q => r2_imp o_ix σ H Q q
/-! ### slices -/
def tO (K : PySem.W.Frag) (f : SP) : TO := fun σ H Q => ∃ H0 B0 τ Fs p, RS K H0 B0 H σ τ Fs ∧ f τ = some p ∧ ∀ H', Same H H' → Q p H'
abbrev DP (X : Cx) (e : Option Expr) (f : SP) : Prop := PO X e (tO X.K f)
theorem _root_.L2.PO.byD {X : Cx} {e : Option Expr} {t t' : TO} (h : PO X e t) (i : ∀ σ H Q, t' σ H Q → t σ H Q) : PO X e t' := ⟨fun pins s σ H Q I q => h.run pins s σ H Q I (i σ H Q q)⟩
theorem dp_none : DP X none pN := by
  refine po_none.byD fun σ H Q h => ?_
  obtain ⟨H0, B0, τ, Fs, p, rs, hp, k⟩ := h
  cases hp
  exact k H (Same.refl H)
theorem dp_some (h : DE X ns e f) : DP X (some e) (pI f) := by
  refine (po_some h).byD fun σ H Q h => ?_
  obtain ⟨H0, B0, τ, Fs, p, rs, hp, k⟩ := h
  obtain ⟨x, hx, hp⟩ := bind_some hp
  refine ⟨H0, B0, τ, Fs, x, rs, hx, fun v H1 F s r n f => ?_⟩
  cases x with
  | int i =>
    cases hp
    obtain ⟨e1, _⟩ := r
    exact ⟨i, e1, k H1 s⟩
  | _ => cases hp
theorem sIx_eq (n d : Nat) (o : Option Int) : HT.sIx n d o = sIx n d o := by cases o <;> rfl
theorem cut_rp {B : Addr → Prop} {H : Hp} {xs : List O} {vs : List V} {F : List Addr} (lo hi : Option Int) (r : Rps K H B xs vs F) : ∃ G, Rps K H B (cut xs lo hi) (cutV vs lo hi) G ∧ G.Sublist F := by
  have hl := r.len
  obtain ⟨G1, a1, b1⟩ := r.drop (sIx xs.length 0 lo)
  obtain ⟨G2, a2, b2⟩ := a1.take (sIx xs.length xs.length hi - sIx xs.length 0 lo)
  refine ⟨G2, ?_, b2.trans b1⟩
  unfold cutV cut
  rw [sIx_eq, sIx_eq, ← hl]
  exact a2
def rSlD (K : PySem.W.Frag) : V → Option Int → Option Int → Hp → VK → Prop := fun x lo hi H Q => rSlL K x lo hi H Q ∨ rSlA K x lo hi H Q
theorem sl_D : SlR X (rSlD X.K) := sl_list.or sl_tupA
theorem cut_whole {α : Type} {xs : List α} {lo hi : Option Int} (h : sIx xs.length 0 lo = 0 ∧ sIx xs.length xs.length hi = xs.length) : cut xs lo hi = xs := by
  unfold cut
  rw [h.1, h.2, List.drop_zero, Nat.sub_zero, List.take_length]
theorem de_sl {lo hi : Option Expr} {p q : SP} {p2 : Pos} (ha : DE X na a fa) (hl : DP X lo p) (hh : DP X hi q) : DE X na (.Subscript a (.Slice lo hi none p2) pos) (xSl fa p q) := by
  refine (pe_slice sl_D ha hl hh).byD fun σ H Q h => ?_
  obtain ⟨H0, B0, τ, Fs, o, rs, ho, k⟩ := h
  obtain ⟨x, hx, ho⟩ := bind_some ho
  obtain ⟨l, hl', ho⟩ := bind_some ho
  obtain ⟨u, hu, ho⟩ := bind_some ho
  refine ⟨H0, B0, τ, Fs, x, rs, hx, fun v1 H1 F1 s1 r1 n1 f1 => ⟨H0, B0, τ, Fs, l, rs.go s1, hl', fun H2 s2 => ⟨H0, B0, τ, Fs, u, (rs.go s1).go s2, hu, fun H3 s3 => ?_⟩⟩⟩
  have r3 := r1.same (s2.trans s3)
  have s4 := s1.trans (s2.trans s3)
  cases x with
  | scr m =>
    cases ho
    obtain ⟨a', e1, e2, h2⟩ := r3
    refine .inl ⟨a', _, e1, h2 H3 fun _ _ z => z, fun p hp => ?_⟩
    have hc : cutV (m.map V.int) l u = (cut m l u).map V.int := by
      unfold cutV cut
      rw [sIx_eq, sIx_eq, List.length_map, ← List.map_drop, ← List.map_take]
    obtain ⟨n3, n4⟩ := new_lst (B := Av B0 na Fs) hp (Rps.nilF (Rps.ints (K := X.K) hc)) List.nodup_nil
    exact k (.ref p) _ [p] (s4.trans (same_upd hp)) n3 n4 fun z q => by rw [List.mem_singleton.mp q]; exact s4.free hp
  | tup xs =>
    cases ho
    obtain ⟨a', vs, e1, h2, q3⟩ := r3
    obtain ⟨G, q4, q5⟩ := cut_rp l u q3
    have hlen := q3.len
    refine .inr ⟨a', vs, e1, (SqT.of h2), fun hw => ?_, fun hw p hp => ?_⟩
    · rw [sIx_eq, sIx_eq, ← hlen] at hw
      rw [cut_whole hw] at k
      exact k (.ref a') H3 F1 s4 ⟨a', vs, rfl, h2, q3⟩ n1 f1
    · exact k (.ref p) _ G (s4.trans (same_upd hp)) ⟨p, cutV vs l u, rfl, upd_same, (q4.same (same_upd hp)).mono fun z q => q.imp id fun q => q5.subset q⟩ (q5.nodup n1) fun z q => f1 z (q5.subset q)
  | lst own xs =>
    cases ho
    obtain ⟨a', vs, G1, e1, h2, q3, sb, _⟩ := r3.lst_at
    obtain ⟨G, q4, q5⟩ := cut_rp l u q3
    have q6 := q5.trans sb
    refine .inl ⟨a', vs, e1, SqL.of h2, fun p hp => ?_⟩
    obtain ⟨n3, n4⟩ := new_lst (B := Av B0 na Fs) hp (q4.mono fun z q => q.imp id fun q => q6.subset q) (q6.nodup n1)
    refine k (.ref p) _ (p :: G) (s4.trans (same_upd hp)) n3 n4 fun z q => ?_
    rcases List.mem_cons.mp q with rfl | q
    · exact s4.free hp
    · exact f1 z (q6.subset q)
  | _ => cases ho
/-! ### built-ins -/
theorem rN_imp {r : List V → Hp → VK → Prop} {h : List O → Option O} (ho : OpN X.K h r) (σ : St) (H : Hp) (Q : VK) (q : tE X.K ns (xF h fs) σ H Q) : tA X.K ns fs σ H fun vs H1 => r vs H1 Q := by
  obtain ⟨H0, B0, τ, Fs, o, rs, ho', k⟩ := q
  obtain ⟨xs, hx, ho'⟩ := bind_some ho'
  refine ⟨H0, B0, τ, Fs, xs, rs, hx, fun vs H1 F s1 r1 n1 f1 => ?_⟩
  refine ho (Av B0 ns Fs) H1 xs o vs F Q ho' r1 n1 (fun a z => avB rs (f1 a z)) fun v H' F' s r n' f' => k v H' F' (s1.trans s) r n' fun a z => ?_
  rcases f' a z with z | z
  · exact f1 a z
  · exact s1.free z
theorem de_callB {r : List V → Hp → VK → Prop} {h : List O → Option O} {id : String} {x : Str} {p : Pos} (hc : CallR X (.builtin id) r) (ho : OpN X.K h r) (hm : X.mg x = none) (hv : bootBuiltins x = some (.builtin id)) (ha : DA X ns (e :: es) fs) (hg : Gl X x := by rfl) (hn : x ≠ "__name__" := by decide) (hdb : (x == ("__debug__" : Str)) = false := by decide)
    (he : starEach (e :: es) X.env = (false, eval e X.env) :: starEach es X.env := by rfl) (hpl : (backTo pos (starEach es X.env)).any (·.1) = false := by rfl) : DE X ns (.Call (.Name x p) (e :: es) [] pos) (xF h fs) :=
  (pe_callB hc hg hm hv ha hn hdb he hpl).byD fun σ H Q q => rN_imp ho σ H Q q
theorem de_callTy {r : List V → Hp → VK → Prop} {h : List O → Option O} {T : String} {x : Str} {p : Pos} (hc : CallR X (.type T) r) (ho : OpN X.K h r) (hm : X.mg x = none) (hv : bootBuiltins x = some (.type T)) (ha : DA X ns (e :: es) fs) (hg : Gl X x := by rfl) (hn : x ≠ "__name__" := by decide) (hdb : (x == ("__debug__" : Str)) = false := by decide)
    (he : starEach (e :: es) X.env = (false, eval e X.env) :: starEach es X.env := by rfl) (hpl : (backTo pos (starEach es X.env)).any (·.1) = false := by rfl) : DE X ns (.Call (.Name x p) (e :: es) [] pos) (xF h fs) :=
  (pe_callTy hc hg hm hv ha hn hdb he hpl).byD fun σ H Q q => rN_imp ho σ H Q q
theorem rps1 {B : Addr → Prop} {H : Hp} {x : O} {vs : List V} {F : List Addr} (h : Rps K H B [x] vs F) : ∃ v, vs = [v] ∧ Rp K H B x v F := by
  obtain ⟨v, vr, F1, F2, h1, h2, h3, h4, h5⟩ := h
  subst h4 h5
  rw [List.append_nil] at h2
  subst h2
  exact ⟨v, h1, h3⟩
theorem rps2 {B : Addr → Prop} {H : Hp} {x y : O} {vs : List V} {F : List Addr} (h : Rps K H B [x, y] vs F) : ∃ v w F1 F2, vs = [v, w] ∧ F = F1 ++ F2 ∧ Rp K H B x v F1 ∧ Rp K H B y w F2 := by
  obtain ⟨v, vr, F1, F2, h1, h2, h3, h4⟩ := h
  obtain ⟨w, e, r⟩ := rps1 h4
  subst e
  exact ⟨v, w, F1, F2, h1, h2, h3, r⟩
def rLenD (K : PySem.W.Frag) : List V → Hp → VK → Prop := fun xs H Q => (∃ p ys, xs = [.ref p] ∧ (SqL K H p ys ∨ SqT K H p ys) ∧ Q (.int ys.length) H) ∨ (∃ z, xs = [.str z] ∧ z.length ≤ sizeLine ∧ Q (.int z.length) H)
theorem c_len : CallR X (.builtin "len") (rLenD X.K) := call_len_seq.or call_len_str
theorem o_len : OpN K lenD' (rLenD K) := by
  intro B H xs o vs F Q e r nd av k
  match xs, e with
  | [.tup xs], e =>
    cases e
    obtain ⟨v, rfl, r1⟩ := rps1 r
    obtain ⟨a, ws, rfl, h2, q⟩ := r1
    exact .inl ⟨a, ws, rfl, .inr (SqT.of h2), by rw [← q.len]; exact done0 k ⟨rfl, rfl⟩⟩
  | [.kt ns], e =>
    cases e
    obtain ⟨v, rfl, r1⟩ := rps1 r
    obtain ⟨a, rfl, _, h2⟩ := r1
    exact .inl ⟨a, _, rfl, .inr (h2.sq H), by rw [List.length_map]; exact done0 k ⟨rfl, rfl⟩⟩
  | [.lst own xs], e =>
    cases e
    obtain ⟨v, rfl, r1⟩ := rps1 r
    obtain ⟨a, ws, G, rfl, h2, q, _⟩ := r1.lst_at
    exact .inl ⟨a, ws, rfl, .inl (SqL.of h2), by rw [← q.len]; exact done0 k ⟨rfl, rfl⟩⟩
  | [.str x], e =>
    obtain ⟨v, rfl, r1⟩ := rps1 r
    obtain ⟨rfl, _⟩ := r1
    simp only [lenD'] at e
    by_cases h : x.length ≤ sLine
    · rw [if_pos h] at e
      cases e
      exact .inr ⟨x, rfl, h, done0 k ⟨rfl, rfl⟩⟩
    · rw [if_neg h] at e; cases e
theorem o_abs : OpN K absD (fun xs H Q => ∃ i, xs = [.int i] ∧ Q (.int (if i < 0 then -i else i)) H) := by
  intro B H xs o vs F Q e r nd av k
  match xs, e with
  | [.int i], e =>
    cases e
    obtain ⟨v, rfl, r1⟩ := rps1 r
    obtain ⟨rfl, _⟩ := r1
    exact ⟨i, rfl, done0 k ⟨rfl, rfl⟩⟩
theorem o_all : OpN K allD (rAll K) := by
  intro B H xs o vs F Q e r nd av k
  match xs, e with
  | [.lst own xs], e =>
    obtain ⟨bs, hb, e⟩ := bind_some (show ((allB xs).bind fun bs => some (O.bl (bs.all id))) = some o from e)
    cases e
    obtain ⟨v, rfl, r1⟩ := rps1 r
    obtain ⟨a, ws, G, rfl, h2, q, _⟩ := r1.lst_at
    have := q.bls hb
    subst this
    exact ⟨a, bs, rfl, SqL.of h2, done0 k ⟨rfl, rfl⟩⟩
theorem o_list : OpN K listD (fun xs H Q => ∃ p ys, xs = [.ref p] ∧ (SqL K H p ys ∨ SqT K H p ys) ∧ ∀ l, H l = none → Q (.ref l) (upd H l (.lst ys))) := by
  intro B H xs o vs F Q e r nd av k
  have fin : ∀ {ys : List O} {ws : List V} {G : List Addr}, Rps K H (Bor B F) ys ws G → G.Sublist F → o = .lst true (frzs ys) → ∀ l, H l = none → Q (.ref l) (upd H l (.lst ws)) := fun {ys ws G} q sb eo l hl => by
    subst eo
    have q2 := (q.mono fun _ => Or.inl).frz (fun a z => av a (sb.subset z))
    obtain ⟨n3, n4⟩ := new_lst (B := B) hl q2.nilF List.nodup_nil
    exact k (.ref l) _ [l] (same_upd hl) n3 n4 fun z q => .inr (by rw [List.mem_singleton.mp q]; exact hl)
  match xs, e with
  | [.tup xs], e =>
    cases e
    obtain ⟨v, rfl, r1⟩ := rps1 r
    obtain ⟨a, ws, rfl, h2, q⟩ := r1
    exact ⟨a, ws, rfl, .inr (SqT.of h2), fin q (List.Sublist.refl _) rfl⟩
  | [.lst own xs], e =>
    cases e
    obtain ⟨v, rfl, r1⟩ := rps1 r
    obtain ⟨a, ws, G, rfl, h2, q, sb, _⟩ := r1.lst_at
    exact ⟨a, ws, rfl, .inl (SqL.of h2), fin q sb rfl⟩
/-- isinstance(x, T) -/
theorem ty_rp {B : Addr → Prop} {H : Hp} {x : O} {v : V} {F : List Addr} {T : Ty5} {o : O} (h : isiD T x = some o) (r : Rp K H B x v F) : ∃ t b, TyX K H v t ∧ o = .bl b ∧ PySem.W.kitOne K t (.type T.name) = some b := by
  cases x with
  | non => obtain ⟨rfl, _⟩ := r; cases h; exact ⟨_, _, .base .non, rfl, by cases T <;> exact kit_ty (by decide +kernel)⟩
  | bl _ => obtain ⟨rfl, _⟩ := r; cases h; exact ⟨_, _, .base (.bl _), rfl, by cases T <;> exact kit_ty (by decide +kernel)⟩
  | int _ => obtain ⟨rfl, _⟩ := r; cases h; exact ⟨_, _, .base (.int _), rfl, by cases T <;> exact kit_ty (by decide +kernel)⟩
  | str _ => obtain ⟨rfl, _⟩ := r; cases h; exact ⟨_, _, .base (.str _), rfl, by cases T <;> exact kit_ty (by decide +kernel)⟩
  | scr _ => cases h
  | anc _ => cases h
  | tup _ =>
    obtain ⟨a, vs, rfl, h2, _⟩ := r
    cases h
    have ty : TyX K H (.ref a) (.type "tuple") := .base (.tup h2)
    exact ⟨_, _, ty, rfl, by cases T <;> exact kit_ty (by decide +kernel)⟩
  | kt _ =>
    obtain ⟨a, rfl, _, o, its, n, h2, h3, _⟩ := r
    cases h
    exact ⟨_, _, .kTuple h2 h3, rfl, by cases T <;> exact kit_ty (by decide +kernel)⟩
  | lst own _ =>
    obtain ⟨a, vs, G, rfl, h2, _⟩ := r.lst_at
    cases h
    exact ⟨_, _, .base (.lst h2), rfl, by cases T <;> exact kit_ty (by decide +kernel)⟩
  | dK own _ _ =>
    have z : ∃ a kvs, v = .ref a ∧ Rd H a (.dK kvs) := by
      cases own with
      | false => obtain ⟨a, kvs, h1, h2, _⟩ := r; exact ⟨a, kvs, h1, h2⟩
      | true => obtain ⟨a, kvs, G, h1, h2, _⟩ := r; exact ⟨a, kvs, h1, .inl h2⟩
    obtain ⟨a, kvs, rfl, h2⟩ := z
    cases h
    have ty : TyX K H (.ref a) (.type "dict") := by
      rcases h2 with h2 | ⟨_, h2⟩
      · exact .base (.dK h2)
      · exact .fDict h2
    exact ⟨_, _, ty, rfl, by cases T <;> exact kit_ty (by decide +kernel)⟩
  | dT own _ _ =>
    have z : ∃ a kvs, v = .ref a ∧ H a = some (.dT kvs) := by
      cases own with
      | false => obtain ⟨a, kvs, h1, h2, _⟩ := r; exact ⟨a, kvs, h1, h2⟩
      | true => obtain ⟨a, kvs, G, h1, h2, _⟩ := r; exact ⟨a, kvs, h1, h2⟩
    obtain ⟨a, kvs, rfl, h2⟩ := z
    cases h
    exact ⟨_, _, .base (.dT h2), rfl, by cases T <;> exact kit_ty (by decide +kernel)⟩
end
end Dv
end
section
set_option Elab.async false
set_option linter.all false
set_option maxRecDepth 100000
/-! Dm: calls of defs, statements, walks, loops, comprehensions, the def's rule. -/
namespace Dv
open PySem PySem.Spec L2
open PyProof.Rows hiding St
section
variable {K : PySem.W.Frag} {X : Cx} {a b c e : Expr} {es : List Expr} {na nb nc ns ms : List Nat} {fa fb fc f g : SE} {fs : SEs} {pos : Pos}
/-- isinstance(x, T) -/
theorem de_isi {T : Ty5} {x y : Str} {p p2 : Pos} (ha : DE X ns a fa) (hm : X.mg x = none) (hv : bootBuiltins x = some (.builtin "isinstance")) (hm2 : X.mg y = none) (hv2 : bootBuiltins y = some (.type T.name)) (hg : Gl X x := by rfl) (hg2 : Gl X y := by rfl)
    (hn : x ≠ "__name__" := by decide) (hn2 : y ≠ "__name__" := by decide) (hdb : (x == ("__debug__" : Str)) = false := by decide) (hdb2 : (y == ("__debug__" : Str)) = false := by decide)
    (h1 : starEach [a, .Name y p2] X.env = (false, eval a X.env) :: starEach [.Name y p2] X.env := by rfl) (h2 : starEach [.Name y p2] X.env = (false, eval (.Name y p2) X.env) :: starEach [] X.env := by rfl) (hpl : (backTo pos (starEach [.Name y p2] X.env)).any (·.1) = false := by rfl) :
    DE X ns (.Call (.Name x p) [a, .Name y p2] [] pos) (x1 (isiD T) fa) := by
  have hy : PE X (.Name y p2) (tC (.ty T.name)) := pe_bltn hg2 hm2 hv2 rfl hn2 hdb2
  refine (pe_callB call_isi hg hm hv (pa_cons ha (pa_cons hy pa_nil h2) h1) hn hdb h1 hpl).byD fun σ H Q q => ?_
  obtain ⟨H0, B0, τ, Fs, o, rs, ho, k⟩ := q
  obtain ⟨x, hx, ho⟩ := bind_some ho
  refine ⟨H0, B0, τ, Fs, x, rs, hx, fun v1 H1 F1 s1 r1 n1 f1 => ?_⟩
  obtain ⟨t, b, ty, eb, kt⟩ := ty_rp ho r1
  subst eb
  exact ⟨v1, .ty T.name, t, .type T.name, b, rfl, .ty _, ty, kt, k _ H1 [] s1 ⟨rfl, rfl⟩ List.nodup_nil fun a z => nomatch z⟩
/-! ### a def's promise -/
def spF (K : PySem.W.Frag) (n : Nat) (fn : List O → Option O) : Sp := fun vs H Q _ => ∃ os B o, os.length = n ∧ Rps K H B os vs [] ∧ MutB B H ∧ fn os = some o ∧
  ∀ v H' F, Same H H' → Rp K H' (Bor B F) o v F → F.Nodup → (∀ a ∈ F, H a = none) → Q v H'
theorem de_call {k : Nat} {f : Addr} {fd : FuncData} {ps : List Str} {n : Nat} {fn : List O → Option O} {x : Str} {p : Pos} (F : FnOk X.prog X.w X.K X.mg X.base CX0 k f fd ps (spF X.K n fn)) (hr : Room k X.A) (hg : Gl X x) (hm : X.mg x = some (.ref f)) (hk : PySem.W.keepIn X.K (.ref f) = true) (hb : Binds X.K fd ps [])
    (ha : DA X ns (e :: es) fs) (hl : (e :: es).length = n) (hdb : (x == ("__debug__" : Str)) = false := by decide) (he : starEach (e :: es) X.env = (false, eval e X.env) :: starEach es X.env := by rfl) (hpl : (backTo pos (starEach es X.env)).any (·.1) = false := by rfl)
    (hlen : ∀ τ os, fs τ = some os → os.length = n := by intro τ os h; simp only [xsC, xsN, Option.bind_eq_some_iff, Option.some.injEq] at h; (try obtain ⟨_, _, _, h, rfl⟩ := h); (try obtain ⟨_, _, _, h, rfl⟩ := h); (try obtain ⟨_, _, _, h, rfl⟩ := h); (try obtain ⟨_, _, _, h, rfl⟩ := h); (try obtain ⟨_, _, _, h, rfl⟩ := h); (try obtain ⟨_, _, _, h, rfl⟩ := h); (try obtain ⟨_, _, _, h, rfl⟩ := h); subst h; rfl) :
    DE X ns (.Call (.Name x p) (e :: es) [] pos) (xCall fn fs) := by
  refine (pe_call F hr hg hm hk hb .nil pass0 ha hdb he hpl).byD fun σ H Q q => ?_
  obtain ⟨H0, B0, τ, Fs, o, rs, ho, k⟩ := q
  obtain ⟨xs, hx, ho⟩ := bind_some ho
  refine ⟨H0, B0, τ, Fs, xs, rs, hx, fun vs H1 F1 s1 r1 n1 f1 => ?_⟩
  show spF X.K n fn (vs ++ []) H1 Q E0
  rw [List.append_nil]
  refine ⟨frzs xs, Av B0 ns Fs, o, ?_, (r1.mono fun _ => Or.inl).frz (fun a z => avB rs (f1 a z)), fun a z => (rs.go s1).mutAv z.all, ho, fun v H' F s r n f => k v H' F (s1.trans s) r n fun a z => s1.free (f a z)⟩
  rw [frzs_eq, List.length_map]
  exact hlen τ xs hx
theorem fn_none {P : Program} {w : World} {mg : Str → Option Value} {base : Heap} {k : Nat} {f : Addr} {fd : FuncData} {ps : List Str} : FnOk P w K mg base CX0 k f fd ps (spF K ps.length fun _ => none) :=
  ⟨fun vs H Q E ⟨os, B, o, h1, h2, _⟩ => by rw [← h2.len, h1], fun A outer s H args us vs Q E hr he hb hv ⟨os, B, o, h1, h2, h3, h4, h5⟩ => by cases h4⟩
/-! ### what changes the slots -/
theorem flat_set {Fs : List (List Addr)} {i : Nat} {a : Addr} {F : List Addr} (h : a ∈ (Fs.set i F).flatten) : a ∈ F ∨ ∃ (j : Nat) (G : List Addr), j ≠ i ∧ Fs[j]? = some G ∧ a ∈ G := by
  obtain ⟨j, G, e, z⟩ := flat_mem h
  by_cases hj : j = i
  · subst hj
    by_cases hl : j < Fs.length
    · rw [List.getElem?_set_self hl] at e
      cases e
      exact .inl z
    · rw [List.getElem?_eq_none (by rw [List.length_set]; omega)] at e
      cases e
  · rw [List.getElem?_set_ne (fun q => hj q.symm)] at e
    exact .inr ⟨j, G, hj, e, z⟩
theorem set_nodup : ∀ {Fs : List (List Addr)} {i : Nat} {F : List Addr}, Fs.flatten.Nodup → F.Nodup → (∀ a ∈ F, a ∉ Fs.flatten) → (Fs.set i F).flatten.Nodup
  | [], i, F, h, _, _ => by simpa using h
  | G :: Fs, 0, F, h, hF, d => by
    show (F :: Fs).flatten.Nodup
    rw [List.flatten_cons, List.nodup_append] at h ⊢
    exact ⟨hF, h.2.1, fun a z b z' e => d a z (by rw [List.flatten_cons]; exact List.mem_append_right _ (e ▸ z'))⟩
  | G :: Fs, i + 1, F, h, hF, d => by
    show (G :: Fs.set i F).flatten.Nodup
    rw [List.flatten_cons, List.nodup_append] at h ⊢
    refine ⟨h.1, set_nodup h.2.1 hF (fun a z q => d a z (by rw [List.flatten_cons]; exact List.mem_append_right _ q)), fun a z b z' e => ?_⟩
    subst e
    rcases flat_set z' with z' | ⟨j, G', _, e, z'⟩
    · exact d a z' (by rw [List.flatten_cons]; exact List.mem_append_left _ z)
    · exact h.2.2 a z a (mem_flat e z') rfl
variable {H0 H H1 H' : Hp} {B0 : Addr → Prop} {σ : St} {τ : Sl} {Fs : List (List Addr)}
/-- a value goes into slot i -/
theorem RS.set {i : Nat} {o : O} {v : V} {F : List Addr} (rs : RS K H0 B0 H σ τ Fs) (s : Same H H1) (r : Rp K H1 (Bor (fun a => B0 a ∨ a ∈ Fs.flatten) F) o v F) (n : F.Nodup) (f : ∀ a ∈ F, H a = none) :
    RS K H0 B0 H1 (σ.set i (some v)) (τ.set i (some o)) (Fs.set i F) := by
  have r1 := rs.go s
  have dF : ∀ a ∈ F, a ∉ Fs.flatten := fun a z q => mut_some (rs.mutF q) (f a z)
  have inB : ∀ a, B0 a ∨ a ∈ (Fs.set i F).flatten → Bor (fun a => B0 a ∨ a ∈ Fs.flatten) F a := fun a z => by
    rcases z with z | z
    · exact .inl (.inl z)
    · rcases flat_set z with z | ⟨j, G, _, e, z⟩
      · exact .inr z
      · exact .inl (.inr (mem_flat e z))
  refine ⟨r1.same, r1.old, fun a z q => ?_, by rw [List.length_set, List.length_set]; exact r1.len, by rw [List.length_set, List.length_set]; exact r1.lenσ, set_nodup r1.nodup n dF, fun a z => ?_, fun j o' h => ?_, fun j h => ?_⟩
  · rcases flat_set z with z | ⟨j, G, _, e, z⟩
    · exact mut_some (rs.old a q) (f a z)
    · exact r1.sep a (mem_flat e z) q
  · rcases flat_set z with z | ⟨j, G, _, e, z⟩
    · exact rs.same.free (f a z)
    · exact r1.fresh a (mem_flat e z)
  · by_cases hj : i = j
    · subst hj
      have hl : i < τ.length := by
        have := (List.getElem?_eq_some_iff.mp h).1
        rwa [List.length_set] at this
      rw [List.getElem?_set_self hl] at h
      cases h
      exact ⟨v, F, List.getElem?_set_self (by rw [rs.lenσ]; exact hl), List.getElem?_set_self (by rw [rs.len]; exact hl), r.mono inB⟩
    · rw [List.getElem?_set_ne hj] at h
      obtain ⟨v', F', a, b, c⟩ := rs.slot j o' h
      refine ⟨v', F', by rw [List.getElem?_set_ne hj]; exact a, by rw [List.getElem?_set_ne hj]; exact b, Rp.same s (c.avoid fun x ne nx z => ?_)⟩
      rcases inB x z with z | z
      · exact nx z
      · exact ne (f x z)
  · by_cases hj : i = j
    · subst hj
      by_cases hl : i < τ.length
      · rw [List.getElem?_set_self hl] at h; cases h
      · rw [List.getElem?_eq_none (by rw [List.length_set]; omega)] at h; cases h
    · rw [List.getElem?_set_ne hj] at h
      rw [List.getElem?_set_ne hj]
      exact r1.nil j h
theorem RS.set_step {i : Nat} {F : List Addr} (rs : RS K H0 B0 H σ τ Fs) (s : Same H H1) (f : ∀ a ∈ F, H a = none) : Step Fs (Fs.set i F) H H1 :=
  ⟨Ext.of s, fun a z => by
    rcases flat_set z with z | ⟨j, G, _, e, z⟩
    · exact .inr (f a z)
    · exact .inl (mem_flat e z)⟩
/-- slot i is no longer held alone -/
theorem RS.frz1 (rs : RS K H0 B0 H σ τ Fs) (i : Nat) : RS K H0 B0 H σ (Dv.frz1 i τ) (Fs.set i []) := by
  unfold Dv.frz1
  cases q : τ[i]? with
  | none =>
    have h1 : τ.length ≤ i := List.getElem?_eq_none_iff.mp q
    rw [List.set_eq_of_length_le (by rw [rs.len]; exact h1)]
    exact rs
  | some s =>
    cases s with
    | none =>
      have h1 := rs.nil i q
      have e1 : τ.set i (frzSlot none) = τ := by
        apply List.ext_getElem?
        intro j
        by_cases hj : i = j
        · subst hj
          rw [List.getElem?_set_self (List.getElem?_eq_some_iff.mp q).1, q]
          rfl
        · rw [List.getElem?_set_ne hj]
      have e2 : Fs.set i [] = Fs := by
        apply List.ext_getElem?
        intro j
        by_cases hj : i = j
        · subst hj
          rw [List.getElem?_set_self (List.getElem?_eq_some_iff.mp h1).1, h1]
        · rw [List.getElem?_set_ne hj]
      show RS K H0 B0 H σ (τ.set i (frzSlot none)) (Fs.set i [])
      rw [e1, e2]
      exact rs
    | some o =>
      obtain ⟨v, h1, h2⟩ := rs.view q
      have e : σ.set i (some v) = σ := by
        apply List.ext_getElem?
        intro j
        by_cases hj : i = j
        · subst hj
          rw [List.getElem?_set_self (List.getElem?_eq_some_iff.mp h1).1, h1]
        · rw [List.getElem?_set_ne hj]
      -- the view avoids all but its own; then the rest
      have inB : ∀ a, B0 a ∨ a ∈ (Fs.set i []).flatten → Av B0 [i] Fs a := fun a z => by
        rcases z with z | z
        · exact .inl z
        · rcases flat_set z with z | ⟨j, G, hj, e, z⟩
          · cases z
          · exact .inr ⟨j, G, fun q => hj (List.mem_singleton.mp q), e, z⟩
      refine ⟨rs.same, rs.old, fun a z => ?_, by rw [List.length_set, List.length_set]; exact rs.len, by rw [List.length_set]; exact rs.lenσ, set_nodup rs.nodup List.nodup_nil (fun a z => nomatch z), fun a z => ?_, fun j o' h => ?_, fun j h => ?_⟩
      · rcases flat_set z with z | ⟨j, G, _, e, z⟩
        · cases z
        · exact rs.sep a (mem_flat e z)
      · rcases flat_set z with z | ⟨j, G, _, e, z⟩
        · cases z
        · exact rs.fresh a (mem_flat e z)
      · by_cases hj : i = j
        · subst hj
          have hl : i < τ.length := (List.getElem?_eq_some_iff.mp q).1
          rw [List.getElem?_set_self hl] at h
          have h : some (Dv.frz o) = some o' := Option.some.inj h
          cases h
          exact ⟨v, [], h1, List.getElem?_set_self (by rw [rs.len]; exact hl), h2.mono inB⟩
        · rw [List.getElem?_set_ne hj] at h
          obtain ⟨v', F', a, b, c⟩ := rs.slot j o' h
          refine ⟨v', F', a, by rw [List.getElem?_set_ne hj]; exact b, c.mono fun x z => (inB x z).all⟩
      · by_cases hj : i = j
        · subst hj
          rw [List.getElem?_set_self (List.getElem?_eq_some_iff.mp q).1] at h
          cases h
        · rw [List.getElem?_set_ne hj] at h
          rw [List.getElem?_set_ne hj]
          exact rs.nil j h
def zeroAt : List Nat → List (List Addr) → List (List Addr)
  | [], Fs => Fs
  | i :: is, Fs => zeroAt is (Fs.set i [])
theorem RS.frzAt : ∀ (is : List Nat) {τ : Sl} {Fs : List (List Addr)}, RS K H0 B0 H σ τ Fs → RS K H0 B0 H σ (Dv.frzAt is τ) (zeroAt is Fs)
  | [], _, _, rs => rs
  | i :: is, _, _, rs => RS.frzAt is (rs.frz1 i)
theorem zero_av : ∀ (is : List Nat) {Fs : List (List Addr)} {a : Addr}, a ∈ (zeroAt is Fs).flatten → ∃ (j : Nat) (G : List Addr), j ∉ is ∧ Fs[j]? = some G ∧ a ∈ G
  | [], Fs, a, h => by
    obtain ⟨j, G, e, z⟩ := flat_mem h
    exact ⟨j, G, (fun q => nomatch q), e, z⟩
  | i :: is, Fs, a, h => by
    obtain ⟨j, G, h1, e, z⟩ := zero_av is h
    by_cases hj : i = j
    · subst hj
      by_cases hl : i < Fs.length
      · rw [List.getElem?_set_self hl] at e; cases e; cases z
      · rw [List.getElem?_eq_none (by rw [List.length_set]; omega)] at e; cases e
    · rw [List.getElem?_set_ne hj] at e
      exact ⟨j, G, fun q => by rcases List.mem_cons.mp q with q | q; exact hj q.symm; exact h1 q, e, z⟩
theorem zero_step {is : List Nat} {H : Hp} {Fs : List (List Addr)} : Step Fs (zeroAt is Fs) H H := ⟨fun _ _ _ e => e, fun a z => let ⟨j, G, _, e, z⟩ := zero_av is z; .inl (mem_flat e z)⟩
/-- a read value goes into slot i -/
theorem RS.put {i : Nat} {o : O} {v : V} {F : List Addr} (rs : RS K H0 B0 H σ τ Fs) (s : Same H H1) (r : Rp K H1 (Bor (Av B0 ns Fs) F) o v F) (n : F.Nodup) (f : ∀ a ∈ F, H a = none) :
    ∃ Fs', RS K H0 B0 H1 (σ.set i (some v)) (Dv.put ns i o τ) Fs' ∧ Step Fs Fs' H H1 := by
  unfold Dv.put
  by_cases hc : clean o = true
  · rw [if_pos hc]
    exact ⟨_, rs.set s (r.clean hc) n f, rs.set_step s f⟩
  · rw [if_neg hc]
    have rz := rs.frzAt ns
    refine ⟨_, rz.set s (r.mono fun a z => ?_) n f, (zero_step (H := H)).trans (rz.set_step s f) fun x z => rs.mutF z⟩
    rcases z with (z | z) | z
    · exact .inl (.inl z)
    · obtain ⟨j, G, h1, e, z⟩ := zero_av ns z
      exact .inl (.inr ⟨j, G, h1, e, z⟩)
    · exact .inr z
/-! ### statements -/
variable {st : Stmt} {rest : List Stmt} {sa sb : SS}
theorem dss_nil : DSs X [] sN := by
  refine pss_nil.byD fun D σ H h => ?_
  obtain ⟨H0, B0, τ, Fs, r, rs, hr, k⟩ := h
  cases hr
  exact k σ H Fs rs Step.refl
theorem seq_imp {t u : SS} {D : Ends} {σ : St} {H : Hp} (h : tS X.K (sSeq t u) D σ H) : tS X.K t { D with nx := tS X.K u D } σ H := by
  obtain ⟨H0, B0, τ, Fs, r, rs, hr, k⟩ := h
  unfold sSeq at hr
  cases q : t τ with
  | none => rw [q] at hr; cases hr
  | some p =>
    rw [q] at hr
    refine ⟨H0, B0, τ, Fs, p, rs, q, ?_⟩
    cases p with
    | nx τ' =>
      refine fun σ' H' Fs' rs' st' => ⟨H0, B0, τ', Fs', r, rs', hr, ?_⟩
      cases r with
      | nx τ2 => exact fun σ2 H2 Fs2 rs2 st2 => k σ2 H2 Fs2 rs2 (st'.trans st2 fun x z => rs.mutF z)
      | bk τ2 => exact fun σ2 H2 Fs2 rs2 st2 => k σ2 H2 Fs2 rs2 (st'.trans st2 fun x z => rs.mutF z)
      | ct τ2 => exact fun σ2 H2 Fs2 rs2 st2 => k σ2 H2 Fs2 rs2 (st'.trans st2 fun x z => rs.mutF z)
      | rt o => exact k
    | rt o => cases hr; exact k
    | bk τ' => cases hr; exact k
    | ct τ' => cases hr; exact k
theorem dss_cons (h1 : DS X st sa) (h2 : DSs X rest sb) : DSs X (st :: rest) (sSeq sa sb) := (pss_cons h1 h2).byD fun D σ H h => seq_imp h
theorem dss_one (h : DS X st sa) : DSs X [st] sa := pss_one h
theorem ds_set {i : Nat} {x : Str} {p' : Pos} (hN : X.N.Nodup) (he : DE X ns e f) (hi : X.N[i]? = some x := by rfl) (hx : Loc X.env.scope x := by first | exact Or.inl rfl | exact Or.inr rfl) (hs : swapsWith e (some (.Name x p')) pos.line X.env = pure false := by rfl) (hf : X.fn x = true ∨ X.env.scope.names.lookup x = some .local := by first | exact .inl rfl | exact .inr rfl) :
    DS X (.Assign [.Name x p'] e pos) (sSet ns i f) := by
  refine (ps_set hN hi hx he hs hf).byD fun D σ H h => ?_
  obtain ⟨H0, B0, τ, Fs, r, rs, hr, k⟩ := h
  obtain ⟨o, ho, hr⟩ := bind_some hr
  cases hr
  refine ⟨H0, B0, τ, Fs, o, rs, ho, fun v H1 F s1 r1 n1 f1 => ?_⟩
  obtain ⟨Fs', rs', st'⟩ := rs.put (i := i) s1 r1 n1 f1
  exact k _ H1 Fs' rs' st'
theorem ds_ret (he : DE X ns e f) : DS X (.Return (some e) pos) (sRet f) := by
  refine (ps_ret he).byD fun D σ H h => ?_
  obtain ⟨H0, B0, τ, Fs, r, rs, hr, k⟩ := h
  obtain ⟨o, ho, hr⟩ := bind_some hr
  cases hr
  exact ⟨H0, B0, τ, Fs, o, rs, ho, fun v H1 F s1 r1 n1 f1 => k v H1 F (rs.same.trans s1) (r1.mono fun a z => z.imp .inl id) n1 fun a z => rs.same.free (f1 a z)⟩
/-- return x: with all that it holds alone -/
theorem ds_retV (i : Nat) {x : Str} {p : Pos} (hN : X.N[i]? = some x := by rfl) (hv : Vis X.env.scope x := by first | exact Or.inl rfl | exact Or.inr (Or.inl rfl) | exact Or.inr (Or.inr rfl)) (hd : (x == ("__debug__" : Str)) = false := by decide)
    (hcd : (x == ("__classdict__" : Str)) = false := by decide) : DS X (.Return (some (.Name x p)) pos) (sRetV i) := by
  refine (ps_ret (pe_var hN hv hd hcd)).byD fun D σ H h => ?_
  obtain ⟨H0, B0, τ, Fs, r, rs, hr, k⟩ := h
  obtain ⟨o, ho, hr⟩ := bind_some hr
  cases hr
  unfold get at ho
  cases q : τ[i]? with
  | none => rw [q] at ho; cases ho
  | some s =>
    cases s with
    | none => rw [q] at ho; cases ho
    | some o' =>
      rw [q] at ho
      cases ho
      obtain ⟨v, F, h1, h2, h3⟩ := rs.slot i o q
      exact ⟨v, h1, k v H F rs.same (h3.mono fun a z => z.imp id fun z => mem_flat h2 z) (nodup_part rs.nodup h2) fun a z => rs.fresh a (mem_flat h2 z)⟩
theorem ds_if {t : ST} {p q : List Stmt} (hc : DT X c t) (ha : DSs X p sa) (hb : DSs X q sb) : DS X (.If c p q pos) (sIf t sa sb) := by
  refine (ps_if hc ha hb).byD fun D σ H h => ?_
  obtain ⟨H0, B0, τ, Fs, r, rs, hr, k⟩ := h
  obtain ⟨x, hx, hr⟩ := bind_some hr
  refine ⟨H0, B0, τ, Fs, x, rs, hx, fun H1 s1 => ?_⟩
  have go : ∀ {u : SS}, u τ = some r → tS X.K u D σ H1 := fun {u} hu => ⟨H0, B0, τ, Fs, r, rs.go s1, hu, by
    have st1 : Step Fs Fs H H1 := ⟨Ext.of s1, fun a z => .inl z⟩
    cases r with
    | nx τ2 => exact fun σ2 H2 Fs2 rs2 st2 => k σ2 H2 Fs2 rs2 (st1.trans st2 fun x z => rs.mutF z)
    | bk τ2 => exact fun σ2 H2 Fs2 rs2 st2 => k σ2 H2 Fs2 rs2 (st1.trans st2 fun x z => rs.mutF z)
    | ct τ2 => exact fun σ2 H2 Fs2 rs2 st2 => k σ2 H2 Fs2 rs2 (st1.trans st2 fun x z => rs.mutF z)
    | rt o => exact k⟩
  cases x with
  | true => exact iteT (go hr)
  | false => exact iteF (go hr)
theorem ds_while {t : ST} {body : List Stmt} (hp : PassesOwn (model X.prog X.w) X.A X.env X.xe) (hc : DT X c t) (hb : DSs X body sb) : DS X (.While c body [] pos) (sWhl t sb) := by
  refine (ps_while hp hc hb).byD fun D σ H h => ?_
  obtain ⟨H0, B0, τ, Fs, r, rs, hr, k⟩ := h
  obtain ⟨n, hn⟩ := of_sWhl hr
  refine ⟨fun m σ' H' => ∃ τ' Fs', RS X.K H0 B0 H' σ' τ' Fs' ∧ whlN t sb m τ' = some r ∧ Step Fs Fs' H H', ⟨n, τ, Fs, rs, hn, Step.refl⟩, ?_⟩
  rintro m σ1 H1 ⟨τ1, Fs1, rs1, h1, st1⟩
  cases m with
  | zero => cases h1
  | succ m =>
    unfold whlN at h1
    cases hx : t τ1 with
    | none => rw [hx] at h1; cases h1
    | some x =>
      rw [hx] at h1
      refine ⟨H0, B0, τ1, Fs1, x, rs1, hx, fun H2 s2 => ?_⟩
      have st2 : Step Fs Fs1 H H2 := st1.trans ⟨Ext.of s2, fun a z => .inl z⟩ fun x z => rs.mutF z
      cases x with
      | false =>
        cases h1
        exact iteF (k σ1 H2 Fs1 (rs1.go s2) st2)
      | true =>
        simp only at h1
        refine iteT ⟨fun σ' H' => ∃ τ' Fs', RS X.K H0 B0 H' σ' τ' Fs' ∧ whlN t sb m τ' = some r ∧ Step Fs Fs' H H', fun σ' H' q => ⟨m, Nat.lt_succ_self _, q⟩, ?_⟩
        cases hy : sb τ1 with
        | none => rw [hy] at h1; cases h1
        | some y =>
          rw [hy] at h1
          refine ⟨H0, B0, τ1, Fs1, y, rs1.go s2, hy, ?_⟩
          cases y with
          | nx τ2 => exact fun σ3 H3 Fs3 rs3 st3 => ⟨τ2, Fs3, rs3, h1, st2.trans st3 fun x z => rs.mutF z⟩
          | ct τ2 => exact fun σ3 H3 Fs3 rs3 st3 => ⟨τ2, Fs3, rs3, h1, st2.trans st3 fun x z => rs.mutF z⟩
          | bk τ2 => cases h1; exact fun σ3 H3 Fs3 rs3 st3 => k σ3 H3 Fs3 rs3 (st2.trans st3 fun x z => rs.mutF z)
          | rt o => cases h1; exact k
end
end Dv
end
section
set_option Elab.async false
set_option linter.all false
set_option maxRecDepth 100000
/-! Dn: what changes an object, targets, walks, for, comprehensions, the def's rule. -/
namespace Dv
open PySem PySem.Spec L2
open PyProof.Rows hiding St
section
variable {K : PySem.W.Frag} {X : Cx} {a b c e : Expr} {es : List Expr} {na nb nc ns ms : List Nat} {fa fb fc f g : SE} {fs : SEs} {pos : Pos}
variable {H0 H H1 H' : Hp} {B0 : Addr → Prop} {σ : St} {τ : Sl} {Fs : List (List Addr)}
/-- the object at p, held alone by slot i, is changed -/
theorem RS.upd {i : Nat} {p : Addr} {F F2 : List Addr} {o2 : O} {u : HO} {v : V} (rs : RS K H0 B0 H σ τ Fs) (hF : Fs[i]? = some F) (hp : p ∈ F) (hv : σ[i]? = some (some v)) (s : Same H H1)
    (r : Rp K (upd H1 p u) (Bor (fun a => B0 a ∨ a ∈ Fs.flatten) F2) o2 v F2) (n : F2.Nodup) (f : ∀ a ∈ F2, a ∈ F ∨ H a = none) :
    RS K H0 B0 (L2.upd H1 p u) σ (τ.set i (some o2)) (Fs.set i F2) ∧ Step Fs (Fs.set i F2) H (L2.upd H1 p u) := by
  have r1 := rs.go s
  have pF : p ∈ Fs.flatten := mem_flat hF hp
  have mp : Mut (H1 p) := r1.mutF pF
  have ex : Ext (fun a => a = p) H1 (L2.upd H1 p u) := fun a o n e => by rw [upd_ne n]; exact e
  have mB : MutB (fun a => a = p) H1 := fun a z => by rw [z]; exact mp
  have inB : ∀ a, B0 a ∨ a ∈ (Fs.set i F2).flatten → Bor (fun a => B0 a ∨ a ∈ Fs.flatten) F2 a := fun a z => by
    rcases z with z | z
    · exact .inl (.inl z)
    · rcases flat_set z with z | ⟨j, G, _, e, z⟩
      · exact .inr z
      · exact .inl (.inr (mem_flat e z))
  have hil : i < Fs.length := (List.getElem?_eq_some_iff.mp hF).1
  refine ⟨⟨fun x o e => ?_, fun x z => ?_, fun x z q => ?_, by rw [List.length_set, List.length_set]; exact rs.len, by rw [List.length_set]; exact rs.lenσ, ?_, fun x z => ?_, fun j o' h => ?_, fun j h => ?_⟩, ⟨fun x o n e => ?_, fun x z => ?_⟩⟩
  · rw [upd_ne (fun (z : x = p) => by rw [z, rs.fresh p pF] at e; cases e)]
    exact r1.same x o e
  · rw [upd_ne (fun (q : x = p) => rs.sep p pF (q ▸ z))]
    exact r1.old x z
  · rcases flat_set z with z | ⟨j, G, _, e, z⟩
    · rcases f x z with z | z
      · exact rs.sep x (mem_flat hF z) q
      · exact mut_some (rs.old x q) z
    · exact rs.sep x (mem_flat e z) q
  · -- no address twice
    have aux : ∀ {Fs : List (List Addr)} {i : Nat} {F : List Addr}, Fs.flatten.Nodup → Fs[i]? = some F → F2.Nodup → (∀ a ∈ F2, a ∈ F ∨ a ∉ Fs.flatten) → (Fs.set i F2).flatten.Nodup := by
      intro Fs i F nd hF n f
      have h0 : (Fs.set i []).flatten.Nodup := set_nodup nd List.nodup_nil fun a z => nomatch z
      have e : Fs.set i F2 = (Fs.set i []).set i F2 := by rw [List.set_set]
      rw [e]
      refine set_nodup h0 n fun a z q => ?_
      rcases flat_set q with q | ⟨j, G, hj, e, q⟩
      · cases q
      · rcases f a z with z | z
        · exact hj (nodup_one nd e hF q z)
        · exact z (mem_flat e q)
    exact aux rs.nodup hF n fun a z => (f a z).imp id fun z q => mut_some (rs.mutF q) z
  · rcases flat_set z with z | ⟨j, G, _, e, z⟩
    · rcases f x z with z | z
      · exact rs.fresh x (mem_flat hF z)
      · exact rs.same.free z
    · exact rs.fresh x (mem_flat e z)
  · by_cases hj : i = j
    · subst hj
      have hl : i < τ.length := by rw [← rs.len]; exact hil
      rw [List.getElem?_set_self hl] at h
      cases h
      exact ⟨v, F2, hv, List.getElem?_set_self hil, r.mono inB⟩
    · rw [List.getElem?_set_ne hj] at h
      obtain ⟨v', F', a, b, c⟩ := r1.slot j o' h
      refine ⟨v', F', a, by rw [List.getElem?_set_ne hj]; exact b, ?_⟩
      have c2 := Rp.ext ex mB (fun a z => .inr (by rw [z]; exact pF)) (fun a z o q => by rw [upd_ne (fun (w : a = p) => hj (nodup_one rs.nodup hF b hp (w ▸ z)))]; exact q) c
      -- at H: what slot j bears is older than F2's new ones
      obtain ⟨v'', F'', a', b', c'⟩ := rs.slot j o' h
      rw [a] at a'; cases a'
      rw [b] at b'; cases b'
      have c3 : Rp K H (fun a => B0 a ∨ a ∈ (Fs.set i F2).flatten) o' v' F' := c'.avoid fun x ne nx z => by
        rcases inB x z with z | z
        · exact nx z
        · rcases f x z with z | z
          · exact nx (.inr (mem_flat hF z))
          · exact ne z
      by_cases hpin : p ∈ (Fs.set i F2).flatten
      · exact Rp.ext ex mB (fun a z => .inr (by rw [z]; exact hpin)) (fun a z o q => by rw [upd_ne (fun (w : a = p) => hj (nodup_one rs.nodup hF b hp (w ▸ z)))]; exact q) (c3.same s)
      · have c4 : Rp K H (fun a => (B0 a ∨ a ∈ (Fs.set i F2).flatten) ∨ a = p) o' v' F' := c'.avoid fun x ne nx z => by
          rcases z with z | z
          · rcases inB x z with z | z
            · exact nx z
            · rcases f x z with z | z
              · exact nx (.inr (mem_flat hF z))
              · exact ne z
          · exact nx (.inr (by rw [z]; exact pF))
        exact (Rp.ext ex mB (fun a z => .inr z) (fun a z o q => by rw [upd_ne (fun (w : a = p) => hj (nodup_one rs.nodup hF b hp (w ▸ z)))]; exact q) (c4.same s)).mono fun a z => .inl z
  · by_cases hj : i = j
    · subst hj
      rw [List.getElem?_set_self (by rw [← rs.len]; exact hil)] at h
      cases h
    · rw [List.getElem?_set_ne hj] at h
      rw [List.getElem?_set_ne hj]
      exact rs.nil j h
  · rw [upd_ne (fun (z : x = p) => n (by rw [z]; exact pF))]
    exact s x o e
  · rcases flat_set z with z | ⟨j, G, _, e, z⟩
    · exact (f x z).imp (fun z => mem_flat hF z) id
    · exact .inl (mem_flat e z)
/-- the list that slot i holds alone -/
theorem RS.lst {i : Nat} {xs : List O} (rs : RS K H0 B0 H σ τ Fs) (h : τ[i]? = some (some (.lst true xs))) :
    ∃ p vs G, σ[i]? = some (some (.ref p)) ∧ Fs[i]? = some (p :: G) ∧ H p = some (.lst vs) ∧ Rps K H (fun a => B0 a ∨ a ∈ Fs.flatten) xs vs G ∧ p ∉ G := by
  obtain ⟨v, F, a, b, c⟩ := rs.slot i _ h
  obtain ⟨p, vs, G, rfl, h2, rfl, h4⟩ := c
  exact ⟨p, vs, G, a, b, h2, h4, (List.nodup_cons.mp (nodup_part rs.nodup b)).1⟩
/-- .. is changed: its items afterwards -/
theorem RS.lupd {i : Nat} {xs xs' : List O} {vs' : List V} {G G' : List Addr} {p : Addr} (rs : RS K H0 B0 H σ τ Fs) (hF : Fs[i]? = some (p :: G)) (hv : σ[i]? = some (some (.ref p))) (s : Same H H1)
    (r : Rps K H1 (Bor (fun a => B0 a ∨ a ∈ Fs.flatten) G') xs' vs' G') (n : (p :: G').Nodup) (f : ∀ a ∈ G', a ∈ G ∨ H a = none) :
    RS K H0 B0 (L2.upd H1 p (.lst vs')) σ (τ.set i (some (.lst true xs'))) (Fs.set i (p :: G')) ∧ Step Fs (Fs.set i (p :: G')) H (L2.upd H1 p (.lst vs')) := by
  have pF : p ∈ Fs.flatten := mem_flat hF List.mem_cons_self
  have mp : Mut (H1 p) := (rs.go s).mutF pF
  refine rs.upd hF List.mem_cons_self hv s ⟨p, vs', G', rfl, upd_same, rfl, ?_⟩ n fun a z => ?_
  · refine Rps.ext (C := fun a => a = p) (fun a o n e => by rw [upd_ne n]; exact e) (fun a z => by rw [z]; exact mp) (fun a z => ?_) (fun a z o q => by rw [upd_ne (fun (w : a = p) => (List.nodup_cons.mp n).1 (w ▸ z))]; exact q) (r.mono fun a z => ?_)
    · rw [z]; exact .inl (.inr pF)
    · rcases z with z | z
      · exact .inl z
      · rcases List.mem_cons.mp z with rfl | z
        · exact .inl (.inr pF)
        · exact .inr z
  · rcases List.mem_cons.mp z with rfl | z
    · exact .inl List.mem_cons_self
    · exact (f a z).imp (List.mem_cons_of_mem _) id
/-- a read value and what it is about to be put into -/
theorem RS.taken {o : O} {v : V} {F : List Addr} (rs : RS K H0 B0 H σ τ Fs) (r : Rp K H1 (Bor (Av B0 ns Fs) F) o v F) :
    ∃ Fs1, RS K H0 B0 H σ (if clean o then τ else Dv.frzAt ns τ) Fs1 ∧ Rp K H1 (Bor (fun a => B0 a ∨ a ∈ Fs1.flatten) F) o v F ∧ Step Fs Fs1 H H := by
  by_cases hc : clean o = true
  · rw [if_pos hc]
    exact ⟨Fs, rs, r.clean hc, Step.refl⟩
  · rw [if_neg hc]
    refine ⟨_, rs.frzAt ns, r.mono fun a z => ?_, zero_step⟩
    rcases z with (z | z) | z
    · exact .inl (.inl z)
    · obtain ⟨j, G, h1, e, z⟩ := zero_av ns z
      exact .inl (.inr ⟨j, G, h1, e, z⟩)
    · exact .inr z
/-- xs.append(e) -/
theorem ds_app (i : Nat) {x : Str} {p pa pp : Pos} (he : DE X ns e f) (hi : X.N[i]? = some x := by rfl) (hv : Vis X.env.scope x := by first | exact Or.inl rfl | exact Or.inr (Or.inl rfl) | exact Or.inr (Or.inr rfl))
    (hd : (x == ("__debug__" : Str)) = false := by decide) (hcd : (x == ("__classdict__" : Str)) = false := by decide)
    (hbase : attributeBase (.Name x p) "append" X.env (eval (.Name x p) X.env) = eval (.Name x p) X.env := by rfl)
    (hfew : ((backTo pp (starEach [e] X.env)).all (fun x => !x.1) && (backToKw pp (keywordEach [] X.env)).all (fun x => x.1.isSome)
      && decide ([e].length + ([] : List Keyword).length + (if ([] : List Keyword).isEmpty then 0 else 1) < 30)) = true := by rfl)
    (hline : (pa.endLine == pp.line) = true := by rfl) (hs : starEach [e] X.env = (false, eval e X.env) :: starEach [] X.env := by rfl) (hpl : (backTo pp (starEach [] X.env)).any (·.1) = false := by rfl)
    (hsw : swapsWith (.Call (.Attribute (.Name x p) "append" pa) [e] [] pp) none pos.line X.env = pure false := by rfl) :
    DS X (.Expr (.Call (.Attribute (.Name x p) "append" pa) [e] [] pp) pos) (sApp ns i f) := by
  refine (ps_expr (pe_bm PySem.F.plainAttrs_list PySem.F.slot_list_append PySem.F.type_list_append mt_append (pe_var hi hv hd hcd) (pa_cons he pa_nil hs) hbase hfew hline hs hpl) hsw).byD fun D σ H h => ?_
  obtain ⟨H0, B0, τ, Fs, r, rs, hr, k⟩ := h
  obtain ⟨o, ho, hr⟩ := bind_some hr
  simp only at hr
  -- the slot is held alone now, and behind the item
  have own : ∀ {τ' : Sl} {r : Fl}, (match τ'[i]? with | some (some (O.lst true xs)) => if xs.length < sLine then some (Fl.nx (τ'.set i (some (.lst true (xs ++ [o]))))) else none | _ => none) = some r → ∃ xs, τ'[i]? = some (some (.lst true xs)) ∧ xs.length < sLine ∧ r = .nx (τ'.set i (some (.lst true (xs ++ [o])))) := fun {τ' r} q => by
    split at q
    · rename_i xs hx
      split at q
      · rename_i hl
        cases q
        exact ⟨xs, hx, hl, rfl⟩
      · cases q
    · cases q
  obtain ⟨xs, hx, hl, rfl⟩ := own hr
  have hτ : ∃ xs0, τ[i]? = some (some (.lst true xs0)) := by
    by_cases hc : clean o = true
    · rw [if_pos hc] at hx; exact ⟨xs, hx⟩
    · rw [if_neg hc] at hx
      have bck : ∀ (is : List Nat) (τ : Sl), (frzAt is τ)[i]? = some (some (.lst true xs)) → ∃ xs0, τ[i]? = some (some (.lst true xs0)) := by
        intro is
        induction is with
        | nil => exact fun τ h => ⟨xs, h⟩
        | cons j is ih =>
          intro τ h
          obtain ⟨xs1, h1⟩ := ih _ h
          unfold frz1 at h1
          split at h1
          · rename_i s hs
            by_cases hj : j = i
            · subst hj
              rw [List.getElem?_set_self (List.getElem?_eq_some_iff.mp hs).1] at h1
              cases s with
              | none => cases h1
              | some o' =>
                have h1 : some (Dv.frz o') = some (O.lst true xs1) := Option.some.inj h1
                cases o' <;> cases h1
            · rw [List.getElem?_set_ne hj] at h1
              exact ⟨xs1, h1⟩
          · exact ⟨xs1, h1⟩
      exact bck ns τ hx
  obtain ⟨xs0, hτ⟩ := hτ
  obtain ⟨p0, vs0, G0, q1, q2, q3, q4, _⟩ := rs.lst hτ
  refine ⟨.ref p0, q1, .inl ⟨rfl, vs0, SqL.of q3⟩, H0, B0, τ, Fs, o, rs, ho, fun v1 H1 F1 s1 r1 n1 f1 => ?_⟩
  obtain ⟨Fs1, rs1, r2, st1⟩ := rs.taken r1
  obtain ⟨p, vs, G, e1, e2, e3, e4, e5⟩ := rs1.lst hx
  rw [q1] at e1
  cases e1
  have nF1 : ∀ a ∈ p0 :: G, a ∉ F1 := fun a z q => mut_some (rs1.mutF (mem_flat e2 z)) (f1 a q)
  have e4' : Rps X.K H1 (Bor (fun a => B0 a ∨ a ∈ Fs1.flatten) (G ++ F1)) xs vs G := Rps.same s1 (e4.avoid fun x ne nx z => by
    rcases z with z | z
    · exact nx z
    · rcases List.mem_append.mp z with z | z
      · exact nx (.inr (mem_flat e2 (List.mem_cons_of_mem _ z)))
      · exact ne (f1 x z))
  have r3 : Rps X.K H1 (Bor (fun a => B0 a ∨ a ∈ Fs1.flatten) (G ++ F1)) [o] [v1] F1 := ⟨v1, [], F1, [], rfl, by rw [List.append_nil], r2.mono fun a z => by
    rcases z with z | z
    · exact .inl z
    · rcases List.mem_append.mp z with z | z
      · exact .inl (.inr (mem_flat e2 (List.mem_cons_of_mem _ z)))
      · exact .inr z, rfl, rfl⟩
  have nd : (p0 :: (G ++ F1)).Nodup := by
    have h0 := nodup_part rs1.nodup e2
    rw [List.nodup_cons] at h0 ⊢
    refine ⟨fun z => ?_, List.nodup_append.mpr ⟨h0.2, n1, fun a z b z' w => nF1 a (List.mem_cons_of_mem _ z) (w ▸ z')⟩⟩
    rcases List.mem_append.mp z with z | z
    · exact h0.1 z
    · exact nF1 p0 List.mem_cons_self z
  obtain ⟨rs2, st2⟩ := rs1.lupd (xs := xs) e2 q1 s1 (e4'.append r3) nd fun a z => (List.mem_append.mp z).imp id (f1 a)
  exact ⟨p0, vs, v1, rfl, rfl, s1 _ _ e3, by rw [← e4.len]; exact hl, k σ _ _ rs2 (st1.trans st2 fun x z => rs.mutF z)⟩
end
end Dv
end
section
set_option Elab.async false
set_option linter.all false
set_option maxRecDepth 100000
/-! Dzp: zip of a list with a tuple. -/
namespace Dv
open PySem PySem.Spec L2
open PyProof.Rows hiding St
/-- the list at a and the tuple at b as they stand at each turn -/
def ItzM (K : PySem.W.Frag) (a b : Addr) : It where
  go := fun i H => ∃ xs ys : List V, ∃ x y : V, (SqL K H a xs ∧ SqT K H b ys) ∧ xs[i]? = some x ∧ ys[i]? = some y
  yld := fun i H v H' => ∃ (p : Addr) (x y : V), v = .ref p ∧ H p = none ∧ H' = upd H p (.tup [x, y]) ∧ (∀ l, SqL K H a l → l[i]? = some x) ∧ ∀ l, SqT K H b l → l[i]? = some y
  stop := fun i H => ∃ xs ys : List V, (SqL K H a xs ∧ SqT K H b ys) ∧ i ≤ xs.length ∧ i ≤ ys.length ∧ (i = xs.length ∨ i = ys.length)
/-- what the zip's own cells are at turn i -/
structure ZState (a b z TI TO i1 i2 : Addr) (i : Nat) (h : Heap) : Prop where
  zp : IsZip h z TI TO .none
  ti : IsPair h TI (.ref i1) (.ref i2)
  to : ∃ x y, IsPair h TO x y
  it1 : h.IsListIter i1 a i
  it2 : h.IsTupleIter i2 b i
theorem five {c z TI TO i1 i2 : Addr} (h : c ∈ [z, TI, TO, i1, i2]) : c = z ∨ c = TI ∨ c = TO ∨ c = i1 ∨ c = i2 := by simpa using h
theorem five_live {a b z TI TO i1 i2 : Addr} {i : Nat} {h : Heap} (S : ZState a b z TI TO i1 i2 i h) {c : Addr} (q : c ∈ [z, TI, TO, i1, i2]) : ∃ o, h.get? c = some o ∧ ∀ v, o.data ≠ .cell v := by
  obtain ⟨x, y, ho⟩ := S.to
  obtain ⟨p, hp, _, dp⟩ := S.it1
  obtain ⟨r, hr, _, dr⟩ := S.it2
  rcases five q with rfl | rfl | rfl | rfl | rfl
  · exact ⟨_, S.zp, fun v e => nomatch e⟩
  · exact ⟨_, S.ti, fun v e => nomatch e⟩
  · exact ⟨_, ho, fun v e => nomatch e⟩
  · exact ⟨p, hp, fun v e => by rw [dp] at e; cases e⟩
  · exact ⟨r, hr, fun v e => by rw [dr] at e; cases e⟩
theorem sep_of {a b z TI TO i1 i2 : Addr} (D : ZipApart z TI TO i1 i2 a b) : ZipSep2 z TI TO i1 i2 [i1, a] [i2, b] where
  TIz := D.TIz
  TOz := D.TOz
  TITO := D.TITO
  TIi1 := D.TIi1
  mem1 := by simp
  zf1 := by simp [D.i1z.symm, D.l1z.symm]
  Tf1 := by simp [D.TOi1, D.l1TO.symm]
  TIi2 := D.TIi2
  mem2 := by simp
  zf2 := by simp [D.i2z.symm, D.l2z.symm]
  Tf2 := by simp [D.TOi2, D.l2TO.symm]
  sep1_2 := by simp [D.i12, D.l2i1.symm]
  sep2_1 := by simp [D.i12.symm, D.l1i2.symm]
theorem turnM {P : Program} {w : World} {K : PySem.W.Frag} {elts : List Expr} {kk : Nat} {tpos : Pos} {a b z TI TO i1 i2 : Addr} (D : ZipApart z TI TO i1 i2 a b) :
    Turn P w K (.Tuple elts kk tpos) (ItzM K a b) [z, TI, TO, i1, i2] z (ZState a b z TI TO i1 i2) where
  mem := List.mem_cons_self
  obj := fun i h S c q => five_live S q
  keep := fun i h h' S k => by
    obtain ⟨x, y, ho⟩ := S.to
    exact ⟨k _ (by simp) _ S.zp, k _ (by simp) _ S.ti, ⟨x, y, k _ (by simp) _ ho⟩, S.it1.at (k _ (by simp)), S.it2.at (k _ (by simp))⟩
  item := by
    intro X eP eW eK calm i pins s σ H E I free S go
    subst eP eW eK
    obtain ⟨xs, ys, x, y, ⟨sx, sy⟩, gx, gy⟩ := go
    obtain ⟨us, vu, pu, _⟩ := I.list sx
    obtain ⟨ws, vw, pw, _⟩ := I.tuple sy
    obtain ⟨u, hu, ru⟩ := vu.get gx
    obtain ⟨t, ht, rt⟩ := vw.get gy
    obtain ⟨x0, y0, ho⟩ := S.to
    have hd : X.A.in1.handled = none := I.ok.hd calm
    have lu : i < us.toArray.size := by have := (List.getElem?_eq_some_iff.mp hu).1; simpa using this
    have lt : i < ws.toArray.size := by have := (List.getElem?_eq_some_iff.mp ht).1; simpa using this
    have zl := Heap.lt_size S.zp
    refine wpAny_pyNext_zipD2_item (sep_of D) (Draws.list hd i1 a D.l1i1 us.toArray) (Draws.tuple hd i2 b D.l2i2 ws.toArray) S.zp S.ti ho ⟨S.it1, pu.isList⟩ ⟨S.it2, pw⟩ lu lt fun u' t' h' tk eu et z1 o1 s1 s2 nw sz keep => ?_
    have e1 : u' = u := by simp [hu] at eu; exact eu.symm
    have e2 : t' = t := by simp [ht] at et; exact et.symm
    subst e1 e2
    refine ⟨_, rfl, wpAny_letOwnedTupleGo_zip (s := { s with heap := h', toks := tk }) z1 fun h2 z2 sb => ?_⟩
    have nw2 : h2.get? s.heap.objs.size = some { cls := .type "tuple", data := .seq #[u', t'] } := (sb.2 _ (Nat.ne_of_gt zl)).trans nw
    have I2 : Inv X pins σ (upd H s.heap.objs.size (.tup [x, y])) { s with heap := h2, toks := tk } :=
      I.turnedNew (t' := tk) (ch := [z, TI, TO, i1, i2]) (fun c o nc q => by
        simp only [List.mem_cons, List.not_mem_nil, or_false, not_or] at nc
        exact (sb.2 c nc.1).trans (keep c o nc.1 nc.2.2.1 nc.2.2.2.1 nc.2.2.2.2 q)) free (Nat.le_refl _)
        ⟨show 2 ≤ sizeLine by decide, [u', t'], .cons ru (.cons rt .nil), _, nw2, rfl, _, rfl⟩
    refine ⟨.ref s.heap.objs.size, _, I2, rfl, ⟨_, x, y, rfl, I.hok.fresh (Nat.le_refl _), rfl, fun l q => (I.list_inj q sx) ▸ gx, fun l q => (I.tuple_inj q sy) ▸ gy⟩, ?_, fun c q => ?_⟩
    · exact ⟨z2, (sb.2 _ D.TIz).trans (keep _ _ D.TIz D.TITO D.TIi1 D.TIi2 S.ti), ⟨u', t', (sb.2 _ D.TOz).trans o1⟩, s1.1.at fun o e => (sb.2 _ D.i1z).trans e, s2.1.at fun o e => (sb.2 _ D.i2z).trans e⟩
    · obtain ⟨o, ho2, _⟩ := five_live S q
      rw [upd_ne (Nat.ne_of_lt (Heap.lt_size ho2))]
      exact (free c q).1
  done := by
    intro X eP eW eK calm i pins s σ H E I free S st
    subst eP eW eK
    obtain ⟨xs, ys, ⟨sx, sy⟩, hend⟩ := st
    obtain ⟨us, vu, pu, _⟩ := I.list sx
    obtain ⟨ws, vw, pw, _⟩ := I.tuple sy
    obtain ⟨x0, y0, ho⟩ := S.to
    have hd : X.A.in1.handled = none := I.ok.hd calm
    have l1 : us.toArray.size = xs.length := by rw [vu.length]; simp
    have l2 : ws.toArray.size = ys.length := by rw [vw.length]; simp
    refine wpAny_pyNext_zipD2_end (sep_of D) (Draws.list hd i1 a D.l1i1 us.toArray) (Draws.tuple hd i2 b D.l2i2 ws.toArray) S.zp S.ti ho ⟨S.it1, pu.isList⟩ ⟨S.it2, pw⟩ (by rw [l1]; exact hend.1) (by rw [l2]; exact hend.2.1) (by rw [l1, l2]; exact hend.2.2) fun h' tk keep => ?_
    refine ⟨rfl, I.turnedL (t' := tk) (ch := [z, TI, TO, i1, i2]) (fun c o nc q => ?_) free⟩
    simp only [List.mem_cons, List.not_mem_nil, or_false, not_or] at nc
    exact keep c o nc.1 nc.2.2.1 nc.2.2.2.1 nc.2.2.2.2 q
  self := fun A i s Q E S q => wpAny_pyIter_zip S.zp q
def iZipM (K : PySem.W.Frag) (ta : TA) : TI := fun σ H R => ta σ H fun vs H1 => ∃ a b, vs = [.ref a, .ref b] ∧
  ((∃ xs ys, SqL K H1 a xs ∧ SqL K H1 b ys ∧ R (Itz K a b) H1) ∨ (∃ xs ys, SqT K H1 a xs ∧ SqT K H1 b ys ∧ R (RZ.ItzT K a b) H1) ∨ ∃ xs ys, SqL K H1 a xs ∧ SqT K H1 b ys ∧ R (ItzM K a b) H1)
theorem vals_two {x : V} {xs : List V} {us : List Value} (h : Vals (x :: xs) us) : ∃ u r, us = u :: r ∧ RelV x u ∧ Vals xs r := by
  cases h with
  | cons a b => exact ⟨_, _, rfl, a, b⟩
theorem vals_nil {us : List Value} (h : Vals [] us) : us = [] := by
  cases h
  rfl
theorem pi_zipM {X : Cx} {e e2 : Expr} {ta : TA} {p pos tpos : Pos} {elts : List Expr} {kk : Nat} (hg : Gl X "zip") (hm : X.mg "zip" = none) (ha : PA X [e, e2] ta)
    (hs : starEach [e, e2] X.env = (false, eval e X.env) :: starEach [e2] X.env := by rfl) (hpl : (backTo pos (starEach [e2] X.env)).any (·.1) = false := by rfl) :
    PI X (.Tuple elts kk tpos) (.Call (.Name "zip" p) [e, e2] [] pos) (iZipM X.K ta) := by
  refine ⟨fun pins s σ H R I q0 => ?_⟩
  refine Call_ (ld_blt I hg hm PyProof.Rows.boot_zip (PyProof.Rows.callWith_type1 (thn (ha.run pos pins s σ H _ I q0) fun us s1 ⟨vs, H1, I1, rv, q1⟩ => ?_) hs hpl))
  obtain ⟨a, b, rfl, q1⟩ := q1
  obtain ⟨u1, us', rfl, ru1, rt⟩ := vals_two rv
  obtain ⟨u2, us2, rfl, ru2, rt2⟩ := vals_two rt
  have z0 := vals_nil rt2
  subst z0
  have e1 : u1 = Value.ref a := ru1
  have e2 : u2 = Value.ref b := ru2
  subst e1 e2
  · skip
    have fp : ∀ c ∈ [s1.heap.objs.size + 4, s1.heap.objs.size + 2, s1.heap.objs.size + 3, s1.heap.objs.size, s1.heap.objs.size + 1], FpOk X pins H1 c := fun c q => by
      have le : s1.heap.objs.size ≤ c := by
        rcases five q with z | z | z | z | z <;> (rw [z]; first | exact Nat.le_add_right _ _ | exact Nat.le_refl _)
      exact I1.fpOk le (I1.hok.fresh le)
    rcases q1 with ⟨xs, ys, sx, sy, q⟩ | ⟨xs, ys, sx, sy, q⟩ | ⟨xs, ys, sx, sy, q⟩
    · obtain ⟨us, vu, pu, _⟩ := I1.list sx
      obtain ⟨ws, vw, pw, _⟩ := I1.list sy
      refine zip_begins2 (begins_list a us.toArray) (begins_list b ws.toArray) pu.isList pw.isList fun h' g1 g2 g3 g4 g5 sz kp => wpAny_pyIter_zip g1 ?_
      exact ⟨_, _, _, _, H1, rfl, I1.kept (t' := s1.toks) kp, turn_zip (PySem.W.ktu_apart s1.heap.objs.size a b pu.lt pw.lt), ⟨g1, g2, ⟨_, _, g3⟩, ⟨_, g4, rfl, rfl⟩, ⟨_, g5, rfl, rfl⟩⟩, fp, q⟩
    · obtain ⟨us, vu, pu, _⟩ := I1.tuple sx
      obtain ⟨ws, vw, pw, _⟩ := I1.tuple sy
      obtain ⟨o1, p1, _⟩ := id pu
      obtain ⟨o2, p2, _⟩ := id pw
      refine zip_begins2 (begins_tuple a us.toArray) (begins_tuple b ws.toArray) pu pw fun h' g1 g2 g3 g4 g5 sz kp => wpAny_pyIter_zip g1 ?_
      exact ⟨_, _, _, _, H1, rfl, I1.kept (t' := s1.toks) kp, RZ.turn_zipT (PySem.W.ktu_apart s1.heap.objs.size a b (Heap.lt_size p1) (Heap.lt_size p2)), ⟨g1, g2, ⟨_, _, g3⟩, ⟨_, g4, rfl, rfl⟩, ⟨_, g5, rfl, rfl⟩⟩, fp, q⟩
    · obtain ⟨us, vu, pu, _⟩ := I1.list sx
      obtain ⟨ws, vw, pw, _⟩ := I1.tuple sy
      obtain ⟨o2, p2, _⟩ := id pw
      refine zip_begins2 (begins_list a us.toArray) (begins_tuple b ws.toArray) pu.isList pw fun h' g1 g2 g3 g4 g5 sz kp => wpAny_pyIter_zip g1 ?_
      exact ⟨_, _, _, _, H1, rfl, I1.kept (t' := s1.toks) kp, turnM (PySem.W.ktu_apart s1.heap.objs.size a b pu.lt (Heap.lt_size p2)), ⟨g1, g2, ⟨_, _, g3⟩, ⟨_, g4, rfl, rfl⟩, ⟨_, g5, rfl, rfl⟩⟩, fp, q⟩
end Dv
end
section
set_option Elab.async false
set_option linter.all false
set_option maxRecDepth 100000
/-! Do: targets, walks, for, comprehensions, the def's rule. -/
namespace Dv
open PySem PySem.Spec L2
open PyProof.Rows hiding St
/-! ### targets -/
theorem wipe_set {σ : St} {i : Nat} {x : Option V} : ∀ js : List Nat, wipe (σ.set i x) js = if i ∈ js then wipe σ js else (wipe σ js).set i x
  | [] => rfl
  | j :: js => by
    show (wipe (σ.set i x) js).set j none = _
    rw [wipe_set js]
    show _ = if i ∈ j :: js then (wipe σ js).set j none else ((wipe σ js).set j none).set i x
    by_cases h : i ∈ js
    · rw [if_pos h, if_pos (List.mem_cons_of_mem _ h)]
    · rw [if_neg h]
      by_cases hj : i = j
      · subst hj
        rw [if_pos List.mem_cons_self, List.set_set]
      · rw [if_neg (fun z => (List.mem_cons.mp z).elim hj h), List.set_comm _ _ hj]
theorem wipe_set_in {σ : St} {i : Nat} {x : Option V} {js : List Nat} (h : i ∈ js) : wipe (σ.set i x) js = wipe σ js := by rw [wipe_set, if_pos h]
/-- vs: the slots that it may store -/
def tG (K : PySem.W.Frag) (vs : List Nat) (g : TGd) : TG := fun v σ H Q => ∃ H0 B0 τ Fs o τ', RS K H0 B0 H σ τ Fs ∧ Rp K H (fun a => B0 a ∨ a ∈ Fs.flatten) o v [] ∧ g o τ = some τ' ∧
  ∀ σ' Fs', RS K H0 B0 H σ' τ' Fs' → (∀ a ∈ Fs'.flatten, a ∈ Fs.flatten) → (∀ js, (∀ j ∈ vs, j ∈ js) → wipe σ' js = wipe σ js) → Q σ' H
def tGs (K : PySem.W.Frag) (vs : List Nat) (g : List O → Sl → Option Sl) : TGs := fun us σ H Q => ∃ H0 B0 τ Fs os τ', RS K H0 B0 H σ τ Fs ∧ Rps K H (fun a => B0 a ∨ a ∈ Fs.flatten) os us [] ∧ g os τ = some τ' ∧
  ∀ σ' Fs', RS K H0 B0 H σ' τ' Fs' → (∀ a ∈ Fs'.flatten, a ∈ Fs.flatten) → (∀ js, (∀ j ∈ vs, j ∈ js) → wipe σ' js = wipe σ js) → Q σ' H
theorem _root_.L2.PG.byD {X : Cx} {e : Expr} {t t' : TG} (h : PG X e t) (i : ∀ v σ H Q, t' v σ H Q → t v σ H Q) : PG X e t' := ⟨fun pins s σ H v u Q I r q => h.run pins s σ H v u Q I r (i v σ H Q q)⟩
theorem _root_.L2.PGs.byD {X : Cx} {e : List Expr} {t t' : TGs} (h : PGs X e t) (i : ∀ v σ H Q, t' v σ H Q → t v σ H Q) : PGs X e t' := ⟨fun pins s σ H v u Q I r q => h.run pins s σ H v u Q I r (i v σ H Q q)⟩
abbrev DG (X : Cx) (vs : List Nat) (e : Expr) (g : TGd) : Prop := PG X e (tG X.K vs g)
abbrev DGs (X : Cx) (vs : List Nat) (e : List Expr) (g : List O → Sl → Option Sl) : Prop := PGs X e (tGs X.K vs g)
section
variable {X : Cx} {e : Expr} {es : List Expr} {pos : Pos} {vs ws : List Nat} {g : TGd} {gs : List O → Sl → Option Sl}
theorem dg_name {i : Nat} {x : Str} (hN : X.N.Nodup) (hi : X.N[i]? = some x := by rfl) (hx : Loc X.env.scope x := by first | exact Or.inl rfl | exact Or.inr rfl) (hf : X.fn x = true ∨ X.env.scope.names.lookup x = some .local := by first | exact .inl rfl | exact .inr rfl) : DG X [i] (.Name x pos) (gN i) := by
  refine (pg_name hN hi hx hf).byD fun v σ H Q h => ?_
  obtain ⟨H0, B0, τ, Fs, o, τ', rs, r, hg, k⟩ := h
  cases hg
  refine k _ (Fs.set i []) (rs.set (F := []) (Same.refl H) (r.mono fun a z => z.elim id fun q => nomatch q) List.nodup_nil fun a z => nomatch z) (fun a z => ?_) fun js h => wipe_set_in (h i List.mem_cons_self)
  rcases flat_set z with z | ⟨j, G, _, e, z⟩
  · cases z
  · exact mem_flat e z
theorem dgs_nil : DGs X [] [] gsN := by
  refine pgs_nil.byD fun us σ H Q h => ?_
  obtain ⟨H0, B0, τ, Fs, os, τ', rs, r, hg, k⟩ := h
  cases os with
  | nil =>
    cases hg
    exact ⟨r.1, k σ Fs rs (fun _ z => z) fun _ _ => rfl⟩
  | cons _ _ => cases hg
theorem dgs_cons (h1 : DG X vs e g) (h2 : DGs X ws es gs) (hs : (assignEach (e :: es) X.env).map (·.2) = assign e X.env :: (assignEach es X.env).map (·.2) := by rfl) : DGs X (vs ++ ws) (e :: es) (gsC g gs) := by
  refine (pgs_cons h1 h2 hs).byD fun us σ H Q h => ?_
  obtain ⟨H0, B0, τ, Fs, os, τ', rs, r, hg, k⟩ := h
  cases os with
  | nil => cases hg
  | cons o os =>
    obtain ⟨τ1, h3, h4⟩ := bind_some hg
    obtain ⟨v, vr, F1, F2, e1, e2, r1, r2⟩ := r
    have e3 := List.append_eq_nil_iff.mp e2.symm
    obtain ⟨rfl, rfl⟩ := e3
    refine ⟨v, vr, e1, H0, B0, τ, Fs, o, τ1, rs, r1, h3, fun σ1 Fs1 rs1 sub1 w1 => ⟨H0, B0, τ1, Fs1, os, τ', rs1, r2.mono (fun a z => z.imp id (sub1 a)), h4, fun σ2 Fs2 rs2 sub2 w2 => k σ2 Fs2 rs2 (fun a z => sub1 a (sub2 a z)) fun js hj => ?_⟩⟩
    rw [w2 js fun j z => hj j (List.mem_append_right _ z), w1 js fun j z => hj j (List.mem_append_left _ z)]
theorem dg_tup {k n : Nat} (hc : X.calm = true) (h : DGs X vs es gs) (hn : (assignEach es X.env).length = n := by rfl) (hst : (assignEach es X.env).findIdx? (·.1) = none := by rfl) : DG X vs (.Tuple es k pos) (gT n gs) := by
  refine (pg_tup hc h hn hst).byD fun v σ H Q h => ?_
  obtain ⟨H0, B0, τ, Fs, o, τ', rs, r, hg, k⟩ := h
  cases o with
  | tup xs =>
    obtain ⟨a, us, e1, h2, q⟩ := r
    simp only [gT] at hg
    split at hg
    · rename_i hl
      exact ⟨a, us, e1, (SqT.of h2), by rw [← q.len]; exact hl, H0, B0, τ, Fs, xs, τ', rs, q, hg, k⟩
    · cases hg
  | kt ns =>
    obtain ⟨a, e1, _, h2⟩ := r
    simp only [gT] at hg
    split at hg
    · rename_i hl
      exact ⟨a, _, e1, h2.sq H, by rw [List.length_map]; exact hl, H0, B0, τ, Fs, ns.map O.int, τ', rs, Rps.ints rfl, hg, k⟩
    · cases hg
  | _ => cases hg
end
/-! ### walks -/
/-- the turns of J over os, wherever all but B stands -/
structure Walk (K : PySem.W.Frag) (B : Addr → Prop) (J : It) (os : List O) (H : Hp) : Prop where
  go : ∀ i H2, Ext B H H2 → i < os.length → J.go i H2
  stop : ∀ H2, Ext B H H2 → J.stop os.length H2
  yld : ∀ i o x H2 H3, Ext B H H2 → os[i]? = some o → J.yld i H2 x H3 → Same H2 H3 ∧ Rp K H3 (fun a => B a ∨ H a = none) o x []
theorem Walk.mono {K : PySem.W.Frag} {B B' : Addr → Prop} {J : It} {os : List O} {H : Hp} (h : Walk K B J os H) (i : ∀ a, B' a → B a) : Walk K B' J os H :=
  ⟨fun j H2 e => h.go j H2 (e.mono i), fun H2 e => h.stop H2 (e.mono i), fun j o x H2 H3 e q y => let ⟨a, b⟩ := h.yld j o x H2 H3 (e.mono i) q y; ⟨a, b.mono fun z w => w.imp (i z) id⟩⟩
def tI (K : PySem.W.Frag) (ns : List Nat) (f : SEs) : TI := fun σ H R => ∃ H0 B0 τ Fs xs, RS K H0 B0 H σ τ Fs ∧ f τ = some xs ∧ ∀ J H', Same H H' → Walk K (Av B0 ns Fs) J (frzs xs) H' → R J H'
theorem _root_.L2.PI.byD {X : Cx} {tg e : Expr} {t t' : TI} (h : PI X tg e t) (i : ∀ σ H Q, t' σ H Q → t σ H Q) : PI X tg e t' := ⟨fun pins s σ H Q I q => h.run pins s σ H Q I (i σ H Q q)⟩
abbrev DI (X : Cx) (tg : Expr) (ns : List Nat) (e : Expr) (f : SEs) : Prop := PI X tg e (tI X.K ns f)
section
variable {K : PySem.W.Frag} {B : Addr → Prop} {H : Hp}
theorem frz_len (xs : List O) : (frzs xs).length = xs.length := by rw [frzs_eq, List.length_map]
theorem sub_nil {F G : List Addr} (h : F.Sublist G) (e : G = []) : F = [] := by subst e; exact List.sublist_nil.mp h
/-- one item, later -/
theorem Rps.later {H2 : Hp} {os : List O} {vs : List V} {i : Nat} {o : O} (q : Rps K H B os vs []) (mB : MutB B H) (e : Ext B H H2) (h : os[i]? = some o) : ∃ v, vs[i]? = some v ∧ Rp K H2 (fun a => B a ∨ H a = none) o v [] := by
  obtain ⟨v, F1, e1, e2, e3⟩ := q.at h
  have z := sub_nil e3 rfl
  subst z
  refine ⟨v, e1, ?_⟩
  have r2 : Rp K H (fun a => B a ∨ H a = none) o v [] := e2.avoid fun a ne n z => z.elim n ne
  exact Rp.ext e mB (fun a z => .inl z) (fun a z => nomatch z) r2
theorem walk_list {a : Addr} {vs : List V} {os : List O} (h : H a = some (.lst vs)) (n : ¬ B a) (q : Rps K H B os vs []) (mB : MutB B H) : Walk K B (Itl K a) os H where
  go := fun i H2 e hi => ⟨vs, _, SqL.of (e a _ n h), List.getElem?_eq_getElem (by rw [← q.len]; exact hi)⟩
  stop := fun H2 e => ⟨vs, SqL.of (e a _ n h), by rw [q.len]; exact Nat.le_refl _⟩
  yld := fun i o x H2 H3 e ho y => by
    obtain ⟨rfl, y⟩ := y
    obtain ⟨v, e1, e2⟩ := q.later mB e ho
    have e3 := y vs (SqL.of (e a _ n h))
    rw [e1] at e3
    cases e3
    exact ⟨Same.refl _, e2⟩
theorem walk_tup {a : Addr} {vs : List V} {os : List O} (h : SqT K H a vs) (q : Rps K H B os vs []) (mB : MutB B H) : Walk K B (Itt K a) os H where
  go := fun i H2 e hi => ⟨vs, _, sqt_ext e mB h, List.getElem?_eq_getElem (by rw [← q.len]; exact hi)⟩
  stop := fun H2 e => ⟨vs, sqt_ext e mB h, by rw [q.len]; exact Nat.le_refl _⟩
  yld := fun i o x H2 H3 e ho y => by
    obtain ⟨rfl, y⟩ := y
    obtain ⟨v, e1, e2⟩ := q.later mB e ho
    have e3 := y vs (sqt_ext e mB h)
    rw [e1] at e3
    cases e3
    exact ⟨Same.refl _, e2⟩
theorem rng_len (lo : Int) : ∀ n, (rngL lo n).length = n
  | 0 => rfl
  | n + 1 => by show (rngL (lo + 1) n).length + 1 = n + 1; rw [rng_len (lo + 1) n]
theorem rng_at : ∀ (n : Nat) (lo : Int) (i : Nat) (o : O), (rngL lo n)[i]? = some o → o = .int (lo + i)
  | 0, _, _, _, h => by cases h
  | n + 1, lo, 0, o, h => by
    have : O.int lo = o := Option.some.inj h
    rw [← this]; simp
  | n + 1, lo, i + 1, o, h => by
    have := rng_at n (lo + 1) i o h
    rw [this]
    have e : lo + 1 + (i : Int) = lo + ((i + 1 : Nat) : Int) := by omega
    rw [e]
theorem rng_flat (lo : Int) : ∀ n, frzs (rngL lo n) = rngL lo n
  | 0 => rfl
  | n + 1 => by show O.int lo :: frzs (rngL (lo + 1) n) = _; rw [rng_flat (lo + 1) n]; rfl
theorem walk_rng (lo : Int) (n : Nat) : Walk K B (Itr lo n) (rngL lo n) H where
  go := fun i H2 e hi => by rw [rng_len] at hi; exact hi
  stop := fun H2 e => by rw [rng_len]; exact Nat.le_refl _
  yld := fun i o x H2 H3 e ho y => by
    obtain ⟨rfl, rfl⟩ := y
    rw [rng_at n lo i o ho]
    exact ⟨Same.refl _, rfl, rfl⟩
/-- a new pair at p -/
theorem pair_new {H2 : Hp} {p : Addr} {x y : O} {v w : V} {C : Addr → Prop} (hp : H2 p = none) (r1 : Rp K H2 C x v []) (r2 : Rp K H2 C y w []) : Rp K (upd H2 p (.tup [v, w])) C (.tup [x, y]) (.ref p) [] :=
  ⟨p, [v, w], rfl, upd_same, v, [w], [], [], rfl, rfl, r1.same (same_upd hp), w, [], [], [], rfl, rfl, r2.same (same_upd hp), rfl, rfl⟩
theorem enu_len : ∀ (os : List O) (i : Nat), (enuL i os).length = os.length
  | [], _ => rfl
  | o :: os, i => by show (enuL (i + 1) os).length + 1 = _; rw [enu_len os]; rfl
theorem enu_at : ∀ (os : List O) (k i : Nat) (o : O), (enuL k os)[i]? = some o → ∃ x, os[i]? = some x ∧ o = .tup [.int ((k + i : Nat) : Int), x]
  | [], _, _, _, h => by cases h
  | x :: os, k, 0, o, h => ⟨x, rfl, (Option.some.inj h).symm⟩
  | x :: os, k, i + 1, o, h => by
    obtain ⟨y, h1, h2⟩ := enu_at os (k + 1) i o h
    exact ⟨y, h1, by rw [h2, show k + 1 + i = k + (i + 1) by omega]⟩
theorem enu_frz : ∀ (os : List O) (k : Nat), frzs (enuL k os) = enuL k (frzs os)
  | [], _ => rfl
  | x :: os, k => by show O.tup [.int k, frz x] :: frzs (enuL (k + 1) os) = _; rw [enu_frz os]; rfl
theorem walk_enum {a : Addr} {vs : List V} {os : List O} (h : H a = some (.lst vs)) (n : ¬ B a) (q : Rps K H B os vs []) (mB : MutB B H) : Walk K B (Ite K a) (enuL 0 os) H where
  go := fun i H2 e hi => ⟨vs, _, SqL.of (e a _ n h), List.getElem?_eq_getElem (by rw [enu_len] at hi; rw [← q.len]; exact hi)⟩
  stop := fun H2 e => ⟨vs, SqL.of (e a _ n h), by rw [enu_len, q.len]; exact Nat.le_refl _⟩
  yld := fun i o x H2 H3 e ho y => by
    obtain ⟨T, x', rfl, hT, rfl, y⟩ := y
    obtain ⟨z, h1, rfl⟩ := enu_at os 0 i o ho
    obtain ⟨v, e1, e2⟩ := q.later mB e h1
    have e3 := y vs (SqL.of (e a _ n h))
    rw [e1] at e3
    cases e3
    refine ⟨same_upd hT, ?_⟩
    rw [Nat.zero_add]
    exact pair_new hT ⟨rfl, rfl⟩ e2
theorem zip_at : ∀ (xs ys : List O) (i : Nat) (o : O), (zipL xs ys)[i]? = some o → ∃ x y, xs[i]? = some x ∧ ys[i]? = some y ∧ o = .tup [x, y]
  | [], _, _, _, h => by cases h
  | _ :: _, [], _, _, h => by cases h
  | x :: xs, y :: ys, 0, o, h => ⟨x, y, rfl, rfl, (Option.some.inj h).symm⟩
  | x :: xs, y :: ys, i + 1, o, h => zip_at xs ys i o h
theorem zip_len : ∀ (xs ys : List O), (zipL xs ys).length = min xs.length ys.length
  | [], _ => by show 0 = min 0 _; omega
  | _ :: _, [] => by show 0 = min _ 0; omega
  | x :: xs, y :: ys => by show (zipL xs ys).length + 1 = min (xs.length + 1) (ys.length + 1); rw [zip_len xs ys]; omega
theorem zip_frz : ∀ (xs ys : List O), frzs (zipL xs ys) = zipL (frzs xs) (frzs ys)
  | [], _ => rfl
  | _ :: _, [] => rfl
  | x :: xs, y :: ys => by show O.tup [frz x, frz y] :: frzs (zipL xs ys) = _; rw [zip_frz xs ys]; rfl
theorem walk_zip {a b : Addr} {vs ws : List V} {os ps : List O} (h : H a = some (.lst vs)) (n : ¬ B a) (q : Rps K H B os vs []) (h' : H b = some (.lst ws)) (n' : ¬ B b) (q' : Rps K H B ps ws []) (mB : MutB B H) : Walk K B (Itz K a b) (zipL os ps) H where
  go := fun i H2 e hi => by
    rw [zip_len, q.len, q'.len] at hi
    exact ⟨vs, ws, _, _, SqL.of (e a _ n h), SqL.of (e b _ n' h'), List.getElem?_eq_getElem (show i < vs.length by omega), List.getElem?_eq_getElem (show i < ws.length by omega)⟩
  stop := fun H2 e => ⟨vs, ws, SqL.of (e a _ n h), SqL.of (e b _ n' h'), by rw [zip_len, q.len, q'.len]; omega⟩
  yld := fun i o x H2 H3 e ho y => by
    obtain ⟨T, x', y', rfl, hT, rfl, y1, y2⟩ := y
    obtain ⟨z, z', h1, h2, rfl⟩ := zip_at os ps i o ho
    obtain ⟨v, e1, e2⟩ := q.later mB e h1
    obtain ⟨w, e1', e2'⟩ := q'.later mB e h2
    have e3 := y1 vs (SqL.of (e a _ n h))
    rw [e1] at e3
    cases e3
    have e4 := y2 ws (SqL.of (e b _ n' h'))
    rw [e1'] at e4
    cases e4
    exact ⟨same_upd hT, pair_new hT e2 e2'⟩
theorem walk_zipM {a b : Addr} {vs ws : List V} {os ps : List O} (h : H a = some (.lst vs)) (n : ¬ B a) (q : Rps K H B os vs []) (h' : SqT K H b ws) (q' : Rps K H B ps ws []) (mB : MutB B H) : Walk K B (ItzM K a b) (zipL os ps) H where
  go := fun i H2 e hi => by
    rw [zip_len, q.len, q'.len] at hi
    exact ⟨vs, ws, _, _, ⟨SqL.of (e a _ n h), sqt_ext e mB h'⟩, List.getElem?_eq_getElem (show i < vs.length by omega), List.getElem?_eq_getElem (show i < ws.length by omega)⟩
  stop := fun H2 e => ⟨vs, ws, ⟨SqL.of (e a _ n h), sqt_ext e mB h'⟩, by rw [zip_len, q.len, q'.len]; omega⟩
  yld := fun i o x H2 H3 e ho y => by
    obtain ⟨T, x', y', rfl, hT, rfl, y1, y2⟩ := y
    obtain ⟨z, z', h1, h2, rfl⟩ := zip_at os ps i o ho
    obtain ⟨v, e1, e2⟩ := q.later mB e h1
    obtain ⟨w, e1', e2'⟩ := q'.later mB e h2
    have e3 := y1 vs (SqL.of (e a _ n h))
    rw [e1] at e3
    cases e3
    have e4 := y2 ws (sqt_ext e mB h')
    rw [e1'] at e4
    cases e4
    exact ⟨same_upd hT, pair_new hT e2 e2'⟩
theorem walk_zipT {a b : Addr} {vs ws : List V} {os ps : List O} (h : SqT K H a vs) (q : Rps K H B os vs []) (h' : SqT K H b ws) (q' : Rps K H B ps ws []) (mB : MutB B H) : Walk K B (RZ.ItzT K a b) (zipL os ps) H where
  go := fun i H2 e hi => by
    rw [zip_len, q.len, q'.len] at hi
    exact ⟨vs, ws, _, _, sqt_ext e mB h, sqt_ext e mB h', List.getElem?_eq_getElem (show i < vs.length by omega), List.getElem?_eq_getElem (show i < ws.length by omega)⟩
  stop := fun H2 e => ⟨vs, ws, sqt_ext e mB h, sqt_ext e mB h', by rw [zip_len, q.len, q'.len]; omega⟩
  yld := fun i o x H2 H3 e ho y => by
    obtain ⟨T, x', y', rfl, hT, rfl, y1, y2⟩ := y
    obtain ⟨z, z', h1, h2, rfl⟩ := zip_at os ps i o ho
    obtain ⟨v, e1, e2⟩ := q.later mB e h1
    obtain ⟨w, e1', e2'⟩ := q'.later mB e h2
    have e3 := y1 vs (sqt_ext e mB h)
    rw [e1] at e3
    cases e3
    have e4 := y2 ws (sqt_ext e mB h')
    rw [e1'] at e4
    cases e4
    exact ⟨same_upd hT, pair_new hT e2 e2'⟩
end
section
variable {X : Cx} {tg a b c e : Expr} {es : List Expr} {na nb ns ms vs : List Nat} {fa fb f : SE} {it : SEs} {pos : Pos} {g : TGd}
/-- list or tuple -/
def iSeq (K : PySem.W.Frag) (tl : TE) : TI := fun σ H R => tl σ H fun x H1 => (∃ a, x = .ref a ∧ (∃ xs, SqL K H1 a xs) ∧ R (Itl K a) H1) ∨ ∃ a, x = .ref a ∧ (∃ xs, SqT K H1 a xs) ∧ R (Itt K a) H1
theorem pi_seq {l : Expr} {tl : TE} (hl : PE X l tl) : PI X tg l (iSeq X.K tl) := by
  refine ⟨fun pins s σ H R I h => ?_⟩
  refine thn (hl.run pins s σ H _ I h) fun v s1 ⟨x, H1, I1, r1, q1⟩ => ?_
  rcases q1 with ⟨a, e, ⟨xs, hq⟩, q⟩ | ⟨a, e, ⟨xs, hq⟩, q⟩
  · subst e
    cases r1
    obtain ⟨its, rv, p, hz⟩ := I1.list hq
    refine wpAny_pyIter_list p.isList ?_
    refine ⟨s1.heap.objs.size, [s1.heap.objs.size], _, _, H1, rfl, I1.kept (t' := s1.toks) fun b o e => Heap.get?_push_of_some _ e, turn_list a _, ⟨_, Heap.get?_push_size _ rfl, rfl, rfl⟩, fun b hb => ?_, q⟩
    have e : b = s1.heap.objs.size := by simpa using hb
    subst e
    exact I1.fpOk (Nat.le_refl _) (I1.hok.fresh (Nat.le_refl _))
  · subst e
    cases r1
    obtain ⟨its, rv, p, hz⟩ := I1.tuple hq
    refine wpAny_pyIter_tuple (show s1.heap.IsTuple a its.toArray from p) ?_
    refine ⟨s1.heap.objs.size, [s1.heap.objs.size], _, _, H1, rfl, I1.kept (t' := s1.toks) fun b o e => Heap.get?_push_of_some _ e, turn_tuple a _, ⟨_, Heap.get?_push_size _ rfl, rfl, rfl⟩, fun b hb => ?_, q⟩
    have e : b = s1.heap.objs.size := by simpa using hb
    subst e
    exact I1.fpOk (Nat.le_refl _) (I1.hok.fresh (Nat.le_refl _))
/-- the items of a list or tuple, as views -/
theorem rp_items {K : PySem.W.Frag} {B : Addr → Prop} {H : Hp} {own : Bool} {xs : List O} {v : V} {F : List Addr} (r : Rp K H (Bor B F) (.lst own xs) v F) (f : ∀ a ∈ F, ¬ B a) : ∃ a vs, v = .ref a ∧ H a = some (.lst vs) ∧ ¬ B a ∧ Rps K H B (frzs xs) vs [] := by
  obtain ⟨a, vs, G, e1, h1, q1, sb, h2, h3⟩ := r.lst_at
  refine ⟨a, vs, e1, h1, ?_, (q1.mono fun _ => Or.inl).frz fun a z => f a (sb.subset z)⟩
  cases own with
  | true => exact f a (h2 rfl).1
  | false => exact fun z => h3 rfl (.inl z)
theorem di_seq (h : DE X ns e f) : DI X tg ns e (itL f) := by
  refine (pi_seq h).byD fun σ H R q => ?_
  obtain ⟨H0, B0, τ, Fs, xs, rs, hx, k⟩ := q
  obtain ⟨x, hx, ho⟩ := bind_some hx
  refine ⟨H0, B0, τ, Fs, x, rs, hx, fun v H1 F s1 r1 n1 f1 => ?_⟩
  have mB : MutB (Av B0 ns Fs) H1 := fun a z => (rs.go s1).mutAv z.all
  have fr : ∀ a ∈ F, ¬ Av B0 ns Fs a := fun a z => avB rs (f1 a z)
  cases x with
  | lst own ys =>
    cases ho
    obtain ⟨a, us, e1, h1, h2, h3⟩ := rp_items r1 fr
    exact .inl ⟨a, e1, ⟨us, SqL.of h1⟩, k _ H1 s1 (walk_list h1 h2 h3 mB)⟩
  | tup ys =>
    cases ho
    obtain ⟨a, us, e1, h1, q1⟩ := r1
    exact .inr ⟨a, e1, ⟨us, (SqT.of h1)⟩, k _ H1 s1 (walk_tup (SqT.of h1) ((q1.mono fun _ => Or.inl).frz fr) mB)⟩
  | kt ys =>
    cases ho
    obtain ⟨a, e1, _, h1⟩ := r1
    exact .inr ⟨a, e1, ⟨_, h1.sq H1⟩, k _ H1 s1 (walk_tup (h1.sq H1) (Rps.frz (F := []) (fun a z => nomatch z) (Rps.ints rfl)) mB)⟩
  | _ => cases ho
theorem di_rng1 {p : Pos} (hm : X.mg "range" = none) (ha : DE X ns a fa) (hg : Gl X "range" := by rfl) (hs : starEach [a] X.env = [(false, eval a X.env)] := by rfl) (h1 : starEach [a] X.env = (false, eval a X.env) :: starEach [] X.env := by rfl) : DI X tg ms (.Call (.Name "range" p) [a] [] pos) (itR1 fa) := by
  refine (pi_range1 hg hm (pa_cons ha pa_nil h1) hs).byD fun σ H R q => ?_
  obtain ⟨H0, B0, τ, Fs, xs, rs, hx, k⟩ := q
  obtain ⟨x, hx, ho⟩ := bind_some hx
  refine ⟨H0, B0, τ, Fs, x, rs, hx, fun v H1 F s1 r1 n1 f1 => ?_⟩
  cases x with
  | int j =>
    simp only at ho
    split at ho
    · rename_i hj
      cases ho
      obtain ⟨rfl, _⟩ := r1
      refine ⟨j, rfl, hj.1, hj.2, k _ H1 s1 ?_⟩
      rw [rng_flat]
      exact walk_rng 0 j.toNat
    · cases ho
  | _ => cases ho
theorem di_enum {p tpos : Pos} {elts : List Expr} {kk : Nat} (hm : X.mg "enumerate" = none) (ha : DE X ns a fa) (hg : Gl X "enumerate" := by rfl) (hs : starEach [a] X.env = [(false, eval a X.env)] := by rfl) (h1 : starEach [a] X.env = (false, eval a X.env) :: starEach [] X.env := by rfl) :
    DI X (.Tuple elts kk tpos) ns (.Call (.Name "enumerate" p) [a] [] pos) (itEn fa) := by
  refine (pi_enum hg hm (pa_cons ha pa_nil h1) hs).byD fun σ H R q => ?_
  obtain ⟨H0, B0, τ, Fs, xs, rs, hx0, k⟩ := q
  obtain ⟨x, hx, ho⟩ := bind_some hx0
  refine ⟨H0, B0, τ, Fs, x, rs, hx, fun v H1 F s1 r1 n1 f1 => ?_⟩
  have mB : MutB (Av B0 ns Fs) H1 := fun a z => (rs.go s1).mutAv z.all
  cases x with
  | lst own ys =>
    cases ho
    obtain ⟨a, us, e1, h1, h2, h3⟩ := rp_items r1 fun a z => avB rs (f1 a z)
    refine ⟨a, us, by rw [e1], SqL.of h1, k _ H1 s1 ?_⟩
    rw [enu_frz]
    exact walk_enum h1 h2 h3 mB
  | _ => cases ho
theorem di_zip {p tpos : Pos} {elts : List Expr} {kk : Nat} (hm : X.mg "zip" = none) (ha : DE X na a fa) (hb : DE X nb b fb) (hg : Gl X "zip" := by rfl)
    (hs : starEach [a, b] X.env = (false, eval a X.env) :: starEach [b] X.env := by rfl) (hpl : (backTo pos (starEach [b] X.env)).any (·.1) = false := by rfl) (h2 : starEach [b] X.env = (false, eval b X.env) :: starEach [] X.env := by rfl) :
    DI X (.Tuple elts kk tpos) (na ++ nb) (.Call (.Name "zip" p) [a, b] [] pos) (itZ fa fb) := by
  refine (pi_zipM hg hm (pa_cons ha (pa_cons hb pa_nil h2) hs) hs hpl).byD fun σ H R q => ?_
  obtain ⟨H0, B0, τ, Fs, xs, rs, hx0, k⟩ := q
  obtain ⟨x, hx, ho1⟩ := bind_some hx0
  obtain ⟨y, hy, ho⟩ := bind_some ho1
  refine ⟨H0, B0, τ, Fs, x, rs, hx, fun v H1 F1 s1 r1 n1 f1 => ⟨H0, Bor B0 F1, τ, Fs, y, rs.more s1 r1.own f1, hy, fun v2 H2 F2 s2 r2 n2 f2 => ?_⟩⟩
  obtain ⟨n, ff⟩ := two_fresh (K := X.K) (B := B0) s1 r1.own n1 n2 f1 f2
  have mB : MutB (Av B0 (na ++ nb) Fs) H2 := fun a z => ((rs.go s1).go s2).mutAv z.all
  have fr : ∀ a ∈ F1 ++ F2, ¬ Av B0 (na ++ nb) Fs a := fun a z => avB rs (ff a z)
  have q1 := two_left (nb := nb) rs s2 r1 f2
  have q2 := r2.mono (two_right (na := na))
  have q1' : Rp X.K H2 (Bor (Av B0 (na ++ nb) Fs) F1) x v F1 := q1.mono fun a z => z.imp id fun z => List.mem_append_left _ z
  have q2' : Rp X.K H2 (Bor (Av B0 (na ++ nb) Fs) F2) y v2 F2 := q2.mono fun a z => z.imp id fun z => List.mem_append_right _ z
  cases x with
  | lst o1 us => cases y with
    | lst o2 ws =>
      cases ho
      obtain ⟨a, us', e1, h1, h2, h3⟩ := rp_items q1' fun a z => fr a (List.mem_append_left _ z)
      obtain ⟨b, ws', e1', h1', h2', h3'⟩ := rp_items q2' fun a z => fr a (List.mem_append_right _ z)
      refine ⟨a, b, by rw [e1, e1'], .inl ⟨us', ws', SqL.of h1, SqL.of h1', k _ H2 (s1.trans s2) ?_⟩⟩
      rw [zip_frz]
      exact walk_zip h1 h2 h3 h1' h2' h3' mB
    | tup ws =>
      cases ho
      obtain ⟨a, us', e1, h1, h2, h3⟩ := rp_items q1' fun a z => fr a (List.mem_append_left _ z)
      obtain ⟨b, ws', e1', h1', q3'⟩ := q2'
      refine ⟨a, b, by rw [e1, e1'], .inr (.inr ⟨us', ws', SqL.of h1, SqT.of h1', k _ H2 (s1.trans s2) ?_⟩)⟩
      rw [zip_frz]
      exact walk_zipM h1 h2 h3 (SqT.of h1') ((q3'.mono fun _ => Or.inl).frz fun a z => fr a (List.mem_append_right _ z)) mB
    | _ => cases ho
  | tup us => cases y with
    | tup ws =>
      cases ho
      obtain ⟨a, us', e1, h1, q3⟩ := q1'
      obtain ⟨b, ws', e1', h1', q3'⟩ := q2'
      refine ⟨a, b, by rw [e1, e1'], .inr (.inl ⟨us', ws', (SqT.of h1), (SqT.of h1'), k _ H2 (s1.trans s2) ?_⟩)⟩
      rw [zip_frz]
      exact walk_zipT (SqT.of h1) ((q3.mono fun _ => Or.inl).frz fun a z => fr a (List.mem_append_left _ z)) (SqT.of h1') ((q3'.mono fun _ => Or.inl).frz fun a z => fr a (List.mem_append_right _ z)) mB
    | kt ws =>
      cases ho
      obtain ⟨a, us', e1, h1, q3⟩ := q1'
      obtain ⟨b, e1', _, h1'⟩ := q2'
      refine ⟨a, b, by rw [e1, e1'], .inr (.inl ⟨us', _, (SqT.of h1), (h1'.sq H2), k _ H2 (s1.trans s2) ?_⟩)⟩
      rw [zip_frz]
      exact walk_zipT (SqT.of h1) ((q3.mono fun _ => Or.inl).frz fun a z => fr a (List.mem_append_left _ z)) (h1'.sq H2) (Rps.frz (F := []) (fun a z => nomatch z) (Rps.ints rfl)) mB
    | _ => cases ho
  | kt us => cases y with
    | tup ws =>
      cases ho
      obtain ⟨a, e1, _, h1⟩ := q1'
      obtain ⟨b, ws', e1', h1', q3'⟩ := q2'
      refine ⟨a, b, by rw [e1, e1'], .inr (.inl ⟨_, ws', (h1.sq H2), (SqT.of h1'), k _ H2 (s1.trans s2) ?_⟩)⟩
      rw [zip_frz]
      exact walk_zipT (h1.sq H2) (Rps.frz (F := []) (fun a z => nomatch z) (Rps.ints rfl)) (SqT.of h1') ((q3'.mono fun _ => Or.inl).frz fun a z => fr a (List.mem_append_right _ z)) mB
    | _ => cases ho
  | _ => cases y <;> cases ho
/-! ### for -/
theorem ds_for {body : List Stmt} {sb : SS} (hp : PassesOwn (model X.prog X.w) X.A X.env X.xe) (hc : X.calm = true) (hi : DI X tg ns e it) (hg : DG X vs tg g) (hb : DSs X body sb) (hs : ∀ x, foldedSetIterable e X.env x = pure x := by intro _; rfl) :
    DS X (.For tg e body [] pos) (sFor ns it g sb) := by
  refine (ps_for hp hc hi hg hb hs).byD fun D σ H h => ?_
  obtain ⟨H0, B0, τ, Fs, r, rs, hr, k⟩ := h
  obtain ⟨xs, hx, hr⟩ := bind_some hr
  refine ⟨H0, B0, τ, Fs, xs, rs, hx, fun J H1 s1 wk => ?_⟩
  have rz := (rs.go s1).frzAt ns
  have stz : Step Fs (zeroAt ns Fs) H H1 := (⟨Ext.of s1, fun a z => .inl z⟩ : Step Fs Fs H H1).trans zero_step fun x z => rs.mutF z
  -- what the loop's slots hold is out of the walk's reach or new
  have avz : ∀ {Fs2 : List (List Addr)} {H2 : Hp}, Step (zeroAt ns Fs) Fs2 H1 H2 → ∀ a ∈ Fs2.flatten, Av B0 ns Fs a ∨ H1 a = none := fun {Fs2 H2} st a z => by
    rcases st.new a z with z | z
    · obtain ⟨j, G, h1, e, z⟩ := zero_av ns z
      exact .inl (.inr ⟨j, G, h1, e, z⟩)
    · exact .inr z
  have ext : ∀ {Fs2 : List (List Addr)} {H2 : Hp}, Step (zeroAt ns Fs) Fs2 H1 H2 → Ext (Av B0 ns Fs) H1 H2 := fun {Fs2 H2} st => st.ext.mono fun a z => by
    obtain ⟨j, G, h1, e, z⟩ := zero_av ns z
    exact .inr ⟨j, G, h1, e, z⟩
  refine ⟨fun i m σ' H' => ∃ τ' Fs', RS X.K H0 B0 H' σ' τ' Fs' ∧ forD g sb ((frzs xs).drop i) τ' = some r ∧ Step (zeroAt ns Fs) Fs' H1 H' ∧ m = (frzs xs).length - i ∧ i ≤ (frzs xs).length,
    ⟨_, _, zeroAt ns Fs, rz, hr, Step.refl, rfl, Nat.zero_le _⟩, ?_⟩
  rintro i m σ2 H2 ⟨τ2, Fs2, rs2, h2, st2, rfl, hi2⟩
  have st02 : Step Fs Fs2 H H2 := stz.trans st2 fun x z => rs.mutF z
  by_cases hlt : i < (frzs xs).length
  · refine .inr ⟨wk.go i H2 (ext st2) hlt, fun σ' H' => ∃ τ' Fs', RS X.K H0 B0 H' σ' τ' Fs' ∧ forD g sb ((frzs xs).drop (i + 1)) τ' = some r ∧ Step (zeroAt ns Fs) Fs' H1 H', fun σ' H' ⟨τ', Fs', a, b, c⟩ => ⟨(frzs xs).length - (i + 1), by omega, τ', Fs', a, b, c, rfl, hlt⟩, fun x H3 y => ?_⟩
    have ho : (frzs xs)[i]? = some ((frzs xs)[i]) := List.getElem?_eq_getElem hlt
    obtain ⟨s3, r3⟩ := wk.yld i _ x H2 H3 (ext st2) ho y
    rw [List.drop_eq_getElem_cons hlt] at h2
    unfold forD at h2
    obtain ⟨τ3, hg3, h2⟩ := bind_some h2
    refine ⟨H0, B0, τ2, Fs2, _, τ3, rs2.go s3, r3.mono fun a z => ?_, hg3, fun σ4 Fs4 rs4 sub4 _ => ?_⟩
    · rcases z with z | z
      · exact .inl (.inl z)
      · exact avz st2 a z
    · have st4 : Step Fs2 Fs4 H2 H3 := ⟨Ext.of s3, fun a z => .inl (sub4 a z)⟩
      have st14 : Step (zeroAt ns Fs) Fs4 H1 H3 := st2.trans st4 fun x z => rz.mutF z
      have st04 : Step Fs Fs4 H H3 := st02.trans st4 fun x z => rs.mutF z
      cases hy : sb τ3 with
      | none => rw [hy] at h2; cases h2
      | some p =>
        rw [hy] at h2
        refine ⟨H0, B0, τ3, Fs4, p, rs4, hy, ?_⟩
        cases p with
        | nx τ5 => exact fun σ5 H5 Fs5 rs5 st5 => ⟨τ5, Fs5, rs5, h2, st14.trans st5 fun x z => rz.mutF z⟩
        | ct τ5 => exact fun σ5 H5 Fs5 rs5 st5 => ⟨τ5, Fs5, rs5, h2, st14.trans st5 fun x z => rz.mutF z⟩
        | bk τ5 => cases h2; exact fun σ5 H5 Fs5 rs5 st5 => k σ5 H5 Fs5 rs5 (st04.trans st5 fun x z => rs.mutF z)
        | rt o => cases h2; exact k
  · have e : i = (frzs xs).length := by omega
    subst e
    rw [List.drop_length] at h2
    cases h2
    exact .inl ⟨wk.stop H2 (ext st2), k σ2 H2 Fs2 rs2 st02⟩
end
end Dv
end
section
set_option Elab.async false
set_option linter.all false
set_option maxRecDepth 100000
/-! Dp: comprehensions, targets of many, the def's rule. -/
namespace Dv
open PySem PySem.Spec L2
open PyProof.Rows hiding St
section
variable {K : PySem.W.Frag}
theorem wipe_get {σ : St} {i : Nat} : ∀ {js : List Nat}, i ∉ js → (wipe σ js)[i]? = σ[i]?
  | [], _ => rfl
  | j :: js, h => by
    show ((wipe σ js).set j none)[i]? = _
    rw [List.getElem?_set_ne (fun (q : j = i) => h (q ▸ List.mem_cons_self)), wipe_get fun z => h (List.mem_cons_of_mem _ z)]
theorem wipe_at {σ : St} {j : Nat} : ∀ {is : List Nat}, j ∈ is → (wipe σ is)[j]? = if j < σ.length then some none else none
  | k :: is, h => by
    show ((wipe σ is).set k none)[j]? = _
    by_cases hk : k = j
    · subst hk
      by_cases hl : k < σ.length
      · rw [if_pos hl, List.getElem?_set_self (by rw [wipe_length]; exact hl)]
      · rw [if_neg hl, List.getElem?_eq_none (by rw [List.length_set, wipe_length]; omega)]
    · rw [List.getElem?_set_ne hk]
      exact wipe_at ((List.mem_cons.mp h).resolve_left (fun q => hk q.symm))
theorem wipe_idem {σ : St} {is : List Nat} : wipe (wipe σ is) is = wipe σ is := by
  apply List.ext_getElem?
  intro j
  by_cases h : j ∈ is
  · rw [wipe_at h, wipe_at h, wipe_length]
  · rw [wipe_get h]
theorem wipeD_len (τ : Sl) : ∀ js : List Nat, (wipeD js τ).length = τ.length
  | [] => rfl
  | j :: js => by show ((wipeD js τ).set j none).length = _; rw [List.length_set, wipeD_len τ js]
theorem wipeD_some {τ : Sl} {i : Nat} {o : O} : ∀ {js : List Nat}, (wipeD js τ)[i]? = some (some o) → τ[i]? = some (some o) ∧ i ∉ js
  | [], h => ⟨h, fun z => nomatch z⟩
  | j :: js, h => by
    have h : ((wipeD js τ).set j none)[i]? = some (some o) := h
    by_cases hj : j = i
    · subst hj
      by_cases hl : j < (wipeD js τ).length
      · rw [List.getElem?_set_self hl] at h; cases h
      · rw [List.getElem?_eq_none (by rw [List.length_set]; omega)] at h; cases h
    · rw [List.getElem?_set_ne hj] at h
      obtain ⟨a, b⟩ := wipeD_some h
      exact ⟨a, fun z => by rcases List.mem_cons.mp z with z | z; exact hj z.symm; exact b z⟩
theorem keepD_len (ns : List Nat) : ∀ (τ : Sl) (k : Nat), (keepD ns k τ).length = τ.length
  | [], _ => rfl
  | s :: τ, k => by show (keepD ns (k + 1) τ).length + 1 = _; rw [keepD_len ns τ]; rfl
theorem keepD_some {ns : List Nat} : ∀ {τ : Sl} {k i : Nat} {o : O}, (keepD ns k τ)[i]? = some (some o) → ∃ o', τ[i]? = some (some o') ∧ o = frz o' ∧ k + i ∈ ns
  | [], _, _, _, h => by cases h
  | s :: τ, k, 0, o, h => by
    have h : some (if ns.contains k then frzSlot s else none) = some (some o) := h
    have h := Option.some.inj h
    by_cases hc : ns.contains k = true
    · rw [if_pos hc] at h
      cases s with
      | none => cases h
      | some o' =>
        have h : some (frz o') = some o := h
        exact ⟨o', rfl, (Option.some.inj h).symm, by simpa using hc⟩
    · rw [if_neg hc] at h; cases h
  | s :: τ, k, i + 1, o, h => by
    obtain ⟨o', a, b, c⟩ := keepD_some (τ := τ) (k := k + 1) (i := i) h
    exact ⟨o', a, b, by rw [show k + (i + 1) = k + 1 + i by omega]; exact c⟩
theorem rep_flat (n : Nat) : (List.replicate n ([] : List Addr)).flatten = [] := by
  induction n with
  | zero => rfl
  | succ n ih => rw [List.replicate_succ, List.flatten_cons, ih]; rfl
theorem rep_get {n i : Nat} {F : List Addr} (h : (List.replicate n ([] : List Addr))[i]? = some F) : F = [] := by
  have := List.mem_of_getElem? h
  exact (List.mem_replicate.mp this).2
theorem rep_some {n i : Nat} (h : i < n) : (List.replicate n ([] : List Addr))[i]? = some [] := by
  rw [List.getElem?_replicate, if_pos h]
/-- the slots within a comprehension's block -/
theorem RS.block {H0 H H1 Hc : Hp} {B0 : Addr → Prop} {σ : St} {τ : Sl} {Fs : List (List Addr)} {ns vs : List Nat} {G : List Addr} (rs : RS K H0 B0 H σ τ Fs) (s1 : Same H H1) (sc : Same H1 Hc) (mG : ∀ a ∈ G, Mut (Hc a)) (nG : ∀ a ∈ G, H1 a = none) :
    RS K Hc (Bor (Av B0 ns Fs) G) Hc (wipe σ vs) (wipeD vs (keepD ns 0 τ)) (List.replicate τ.length []) := by
  have rc := (rs.go s1).go sc
  refine ⟨Same.refl _, fun a z => ?_, fun a z => ?_, ?_, ?_, ?_, fun a z => ?_, fun i o h => ?_, fun i h => ?_⟩
  · rcases z with z | z
    · exact rc.mutAv z.all
    · exact mG a z
  · rw [rep_flat] at z; cases z
  · rw [List.length_replicate, wipeD_len, keepD_len]
  · rw [wipe_length, wipeD_len, keepD_len]; exact rs.lenσ
  · rw [rep_flat]; exact List.nodup_nil
  · rw [rep_flat] at z; cases z
  · obtain ⟨h1, h2⟩ := wipeD_some h
    obtain ⟨o', h3, h4, h5⟩ := keepD_some h1
    rw [Nat.zero_add] at h5
    obtain ⟨v, e1, e2⟩ := rs.view h3
    subst h4
    refine ⟨v, [], by rw [wipe_get h2]; exact e1, rep_some (List.getElem?_eq_some_iff.mp h3).1, ?_⟩
    refine Rp.same (s1.trans sc) (e2.avoid fun a ne n z => ?_)
    rcases z with (z | z) | z
    · rcases z with z | ⟨j, F, hj, e, z⟩
      · exact n (.inl z)
      · exact n (.inr ⟨j, F, fun q => hj (List.mem_singleton.mp q ▸ h5), e, z⟩)
    · have := nG a z
      exact ne (s1.free this)
    · rw [rep_flat] at z; cases z
  · have hl := (List.getElem?_eq_some_iff.mp h).1
    rw [wipeD_len, keepD_len] at hl
    exact rep_some hl
end
section
variable {X : Cx}
abbrev DTs (X : Cx) (ifs : List Expr) (t : ST) : Prop := PTs X ifs (tT X.K t)
theorem dts_nil : DTs X [] tY := ⟨fun pins s σ H Q I h => pts_nil.run pins s σ H Q I (by
  obtain ⟨H0, B0, τ, Fs, b, rs, hb, k⟩ := h
  cases hb
  exact k H (Same.refl H))⟩
theorem dts_one {c : Expr} {t : ST} (h : DT X c t) : DTs X [c] t := pts_one h
theorem lc_imp {nit ns ne vs vs' : List Nat} {it : SEs} {g : TGd} {t : ST} {f : SE} (hsub : ∀ i ∈ nit, i ∈ ns) (hv : ∀ i ∈ vs', i ∈ vs) (σ : St) (H : Hp) (Q : VK) (q : tE X.K ns (xLc ns vs it g t f) σ H Q) :
    tLc (tI X.K nit it) (tG X.K vs' g) (tT X.K t) (tE X.K ne f) vs σ H Q := by
  obtain ⟨H0, B0, τ, Fs, o, rs, ho, k⟩ := q
  obtain ⟨xs, hx, ho⟩ := bind_some ho
  refine ⟨H0, B0, τ, Fs, xs, rs, hx, fun J H1 s1 wk0 D hD => ?_⟩
  have wk := wk0.mono (B' := Av B0 ns Fs) fun a z => by
    rcases z with z | ⟨j, F, hj, e, z⟩
    · exact .inl z
    · exact .inr ⟨j, F, fun q => hj (hsub j q), e, z⟩
  have hl0 : xs.length ≤ sLine := by
    by_cases h : xs.length ≤ sLine
    · exact h
    · rw [if_neg h] at ho; cases ho
  rw [if_pos hl0] at ho
  obtain ⟨os, hos, ho⟩ := bind_some ho
  cases ho
  have hlen := frz_len xs
  generalize hτb : wipeD vs (keepD ns 0 τ) = τb at hos
  refine ⟨fun i m Hc => ∃ ao av G r, i ≤ (frzs xs).length ∧ m = (frzs xs).length - i ∧ Same H1 Hc ∧ lcD g t f ((frzs xs).drop i) τb = some r ∧ os = ao ++ r ∧ Hc D = some (.lst av) ∧ Rps X.K Hc (Bor (Av B0 ns Fs) (D :: G)) ao av G ∧ (D :: G).Nodup ∧ (∀ a ∈ G, H1 a = none) ∧ ao.length ≤ i,
    ⟨_, [], [], [], os, Nat.zero_le _, rfl, same_upd hD, hos, rfl, upd_same, ⟨rfl, rfl⟩, List.nodup_cons.mpr ⟨(fun z => nomatch z), List.nodup_nil⟩, (fun a z => nomatch z), Nat.le_refl _⟩, ?_⟩
  rintro i m Hc ⟨ao, av, G, r, hi, rfl, sc, hr, eo, hDc, rao, nd, fG, hal⟩
  by_cases hlt : i < (frzs xs).length
  · refine .inr ⟨wk.go i Hc (Ext.of sc) hlt, fun H' => ∃ ao av G r, Same H1 H' ∧ lcD g t f ((frzs xs).drop (i + 1)) τb = some r ∧ os = ao ++ r ∧ H' D = some (.lst av) ∧ Rps X.K H' (Bor (Av B0 ns Fs) (D :: G)) ao av G ∧ (D :: G).Nodup ∧ (∀ a ∈ G, H1 a = none) ∧ ao.length ≤ i + 1,
      fun H' ⟨ao, av, G, r, a, b, c, d, e, f', g', h'⟩ => ⟨(frzs xs).length - (i + 1), by omega, ao, av, G, r, hlt, rfl, a, b, c, d, e, f', g', h'⟩, fun x H3 y => ?_⟩
    have hoi : (frzs xs)[i]? = some ((frzs xs)[i]) := List.getElem?_eq_getElem hlt
    obtain ⟨s3, r3⟩ := wk.yld i _ x Hc H3 (Ext.of sc) hoi y
    rw [List.drop_eq_getElem_cons hlt] at hr
    unfold lcD at hr
    obtain ⟨τ1, hg, hr⟩ := bind_some hr
    obtain ⟨b, hb, hr⟩ := bind_some hr
    have mG : ∀ a ∈ D :: G, Mut (H3 a) := fun a z => by
      have m : Mut (Hc a) := by
        rcases List.mem_cons.mp z with rfl | z
        · rw [hDc]; trivial
        · exact rao.own a z
      cases q : Hc a with
      | none => rw [q] at m; exact m.elim
      | some u => rw [s3 a u q]; rw [q] at m; exact m
    have nG : ∀ a ∈ D :: G, H1 a = none := fun a z => by
      rcases List.mem_cons.mp z with rfl | z
      · exact hD
      · exact fG a z
    have rb := RS.block (K := X.K) (ns := ns) (vs := vs) rs s1 (sc.trans s3) mG nG
    rw [hτb] at rb
    refine ⟨H3, _, τb, _, _, τ1, rb, r3.mono fun a z => ?_, hg, fun σ2 Fs2 rs2 sub2 w2 => ⟨(w2 vs hv).trans wipe_idem, ?_⟩⟩
    · rcases z with (z | z) | z
      · exact .inl z
      · exact .inr (nG a z)
      · rw [rep_flat] at z; cases z
    · refine ⟨H3, _, τ1, Fs2, b, rs2, hb, fun H4 s4 => ?_⟩
      cases b with
      | false =>
        rw [if_neg Bool.false_ne_true] at hr
        exact iteF ⟨ao, av, G, r, sc.trans (s3.trans s4), hr, eo, s4 _ _ (s3 _ _ hDc), rao.same (s3.trans s4), nd, fG, Nat.le_succ_of_le hal⟩
      | true =>
        rw [if_pos rfl] at hr
        obtain ⟨o, ho, hr⟩ := bind_some hr
        obtain ⟨r', hr', hr⟩ := bind_some hr
        cases hr
        refine iteT ⟨H3, _, τ1, Fs2, o, rs2.go s4, ho, fun v H5 F s5 r5 n5 f5 => ?_⟩
        have s35 := s3.trans (s4.trans s5)
        have hD5 := s35 _ _ hDc
        have fF : ∀ a ∈ F, H3 a = none := fun a z => s4.free (f5 a z)
        have fF1 : ∀ a ∈ F, H1 a = none := fun a z => sc.free (s3.free (fF a z))
        have DF : D ∉ F := fun z => by have := fF D z; rw [s3 _ _ hDc] at this; cases this
        have GF : ∀ a ∈ G, a ∉ F := fun a z q => by
          have m := mG a (List.mem_cons_of_mem _ z)
          exact mut_some m (fF a q)
        have nd' : (D :: (G ++ F)).Nodup := by
          rw [List.nodup_cons] at nd ⊢
          exact ⟨fun z => (List.mem_append.mp z).elim nd.1 DF, List.nodup_append.mpr ⟨nd.2, n5, fun a z b z' e => GF a z (e ▸ z')⟩⟩
        refine ⟨av, hD5, ?_, ao ++ [o], av ++ [v], G ++ F, r', ?_, hr', by rw [eo, List.append_assoc]; rfl, upd_same, ?_, nd', fun a z => (List.mem_append.mp z).elim (fG a) (fF1 a), by rw [List.length_append]; exact Nat.succ_le_succ hal⟩
        · rw [← rao.len]
          have : sLine = sizeLine := rfl
          omega
        · intro a u q
          have := sc a u q
          rw [upd_ne (fun (z : a = D) => by rw [z, hD] at q; cases q)]
          exact s35 a u this
        · -- behind the store at D
          have ex : Ext (fun a => a = D) H5 (upd H5 D (.lst (av ++ [v]))) := fun a o n e => by rw [upd_ne n]; exact e
          have mB : MutB (fun a => a = D) H5 := fun a z => by rw [z, hD5]; trivial
          have a1 : Rps X.K H5 (Bor (Av B0 ns Fs) (D :: (G ++ F))) ao av G := Rps.same (s4.trans s5) ((rao.same s3).avoid fun a ne n z => by
            rcases z with z | z
            · exact n (.inl z)
            · rcases List.mem_cons.mp z with z | z
              · exact n (.inr (by rw [z]; exact List.mem_cons_self))
              · rcases List.mem_append.mp z with z | z
                · exact n (.inr (List.mem_cons_of_mem _ z))
                · exact ne (fF a z))
          have a2 : Rps X.K H5 (Bor (Av B0 ns Fs) (D :: (G ++ F))) [o] [v] F := ⟨v, [], F, [], rfl, by rw [List.append_nil], r5.mono fun a z => (by
            rcases z with z | z
            · exact .inl (.inl (.inl z))
            · rcases List.mem_cons.mp z with z | z
              · exact .inl (.inl (.inr (by rw [z]; exact List.mem_cons_self)))
              · rcases List.mem_append.mp z with z | z
                · exact .inl (.inl (.inr (List.mem_cons_of_mem _ z)))
                · exact .inr z), rfl, rfl⟩
          exact Rps.ext ex mB (fun a z => .inr (by rw [z]; exact List.mem_cons_self)) (fun a z u q => by rw [upd_ne (fun (w : a = D) => (List.nodup_cons.mp nd').1 (w ▸ z))]; exact q) (a1.append a2)
  · have e : i = (frzs xs).length := by omega
    subst e
    rw [List.drop_length] at hr
    cases hr
    rw [List.append_nil] at eo
    subst eo
    refine .inl ⟨wk.stop Hc (Ext.of sc), k (.ref D) Hc (D :: G) (s1.trans sc) ⟨D, av, G, rfl, hDc, rfl, rao⟩ nd fun a z => ?_⟩
    rcases List.mem_cons.mp z with rfl | z
    · exact s1.free hD
    · exact s1.free (fG a z)
theorem de_lc {nit ns ne vs' : List Nat} {elt tg iter : Expr} {ifs : List Expr} {scope : Scope} {own : List (Str × Nat)} {pos : Pos} {it : SEs} {g : TGd} {t : ST} {f : SE} (hc : X.calm = true) (hN : X.N.Nodup) (hi : DI X tg nit iter it) (ok : BlkOk X.N X.env.scope scope own)
    (hg : ∀ (s : Shared) (H : Hp) (C : Addr) (cl : List (Str × Addr)) (fp : List Addr), PG (X.blk s H scope (compEnvC scope cl C X.env) fp) tg (tG X.K vs' g))
    (ht : ∀ (s : Shared) (H : Hp) (C : Addr) (cl : List (Str × Addr)) (fp : List Addr), PTs (X.blk s H scope (compEnvC scope cl C X.env) fp) ifs (tT X.K t))
    (he : ∀ (s : Shared) (H : Hp) (C : Addr) (cl : List (Str × Addr)) (fp : List Addr), PE (X.blk s H scope (compEnvC scope cl C X.env) fp) elt (tE X.K ne f))
    (hsub : ∀ i ∈ nit, i ∈ ns := by decide) (hv : ∀ i ∈ vs', i ∈ own.map (·.2) := by decide) (hs : ∀ x, foldedSetIterable iter X.env x = pure x := by intro _; rfl) :
    DE X ns (.ListComp elt [⟨tg, iter, ifs, 0⟩] scope pos) (xLc ns (own.map (·.2)) it g t f) :=
  (pe_lc hc hN hi ok hg ht he hs).byD fun σ H Q q => lc_imp hsub hv σ H Q q
theorem ds_setLc {nit ns ne vs' : List Nat} {i : Nat} {y : Str} {py : Pos} {elt tg iter : Expr} {ifs : List Expr} {scope : Scope} {own : List (Str × Nat)} {pos spos : Pos} {it : SEs} {g : TGd} {t : ST} {f : SE} (hc : X.calm = true) (hN : X.N.Nodup)
    (hi : DI X tg nit iter it) (ok : BlkOk X.N X.env.scope scope own)
    (hg : ∀ (s : Shared) (H : Hp) (C : Addr) (cl : List (Str × Addr)) (fp : List Addr), PG (X.blk s H scope (compEnvC scope cl C X.env) fp) tg (tG X.K vs' g))
    (ht : ∀ (s : Shared) (H : Hp) (C : Addr) (cl : List (Str × Addr)) (fp : List Addr), PTs (X.blk s H scope (compEnvC scope cl C X.env) fp) ifs (tT X.K t))
    (he : ∀ (s : Shared) (H : Hp) (C : Addr) (cl : List (Str × Addr)) (fp : List Addr), PE (X.blk s H scope (compEnvC scope cl C X.env) fp) elt (tE X.K ne f))
    (hy : X.N[i]? = some y) (hyl : X.env.scope.names.lookup y = some .local) (hsw : swapsWith (.ListComp elt [⟨tg, iter, ifs, 0⟩] scope pos) (some (.Name y py)) spos.line X.env = pure true)
    (hsub : ∀ i ∈ nit, i ∈ ns := by decide) (hv : ∀ i ∈ vs', i ∈ own.map (·.2) := by decide) (hs : ∀ x, foldedSetIterable iter X.env x = pure x := by intro _; rfl) :
    DS X (.Assign [.Name y py] (.ListComp elt [⟨tg, iter, ifs, 0⟩] scope pos) spos) (sSet ns i (xLc ns (own.map (·.2)) it g t f)) := by
  refine (ps_setLc hc hN hy hyl hsw hi ok hg ht he hs).byD fun D σ H h => ?_
  obtain ⟨H0, B0, τ, Fs, r, rs, hr, k⟩ := h
  obtain ⟨o, ho, hr⟩ := bind_some hr
  cases hr
  refine lc_imp (ns := ns) hsub hv σ H _ ⟨H0, B0, τ, Fs, o, rs, ho, fun v H1 F s1 r1 n1 f1 => ?_⟩
  obtain ⟨Fs', rs', st'⟩ := rs.put (i := i) s1 r1 n1 f1
  exact k _ H1 Fs' rs' st'
/-! ### a, b = e -/
theorem ds_asg {ns vs : List Nat} {tg e : Expr} {f : SE} {g : TGd} {pos : Pos} (he : DE X ns e f) (hg : DG X vs tg g) (hs : swapsWithSole [tg] e pos.line X.env = pure false := by rfl) (hw : swappedStores [tg] e X.env = pure none := by rfl)
    (h1 : (assignEach [tg] X.env).map (·.2) = [assign tg X.env] := by rfl) : DS X (.Assign [tg] e pos) (sAsg ns f g) := by
  refine (ps_asg he hg hs hw h1).byD fun D σ H h => ?_
  obtain ⟨H0, B0, τ, Fs, r, rs, hr, k⟩ := h
  obtain ⟨o, ho, hr⟩ := bind_some hr
  obtain ⟨τ', hg', hr⟩ := bind_some hr
  cases hr
  refine ⟨H0, B0, τ, Fs, o, rs, ho, fun v H1 F s1 r1 n1 f1 => ?_⟩
  obtain ⟨Fs1, rs1, r2, st1⟩ := rs.taken r1
  have av : ∀ a ∈ F, ¬ (B0 a ∨ a ∈ Fs1.flatten) := fun a z q => mut_some (rs1.mutAv q) (f1 a z)
  refine ⟨H0, B0, _, Fs1, Dv.frz o, τ', rs1.go s1, (r2.mono fun _ => Or.inl).frz av, hg', fun σ' Fs' rs' sub' _ => k σ' H1 Fs' rs' ?_⟩
  exact st1.trans ⟨Ext.of s1, fun a z => .inl (sub' a z)⟩ fun x z => rs.mutF z
/-- a row of read values -/
theorem RS.takens {K : PySem.W.Frag} {H0 H H1 : Hp} {B0 : Addr → Prop} {σ : St} {τ : Sl} {Fs : List (List Addr)} {ns : List Nat} {os : List O} {vs : List V} {F : List Addr} (rs : RS K H0 B0 H σ τ Fs) (r : Rps K H1 (Bor (Av B0 ns Fs) F) os vs F) :
    ∃ Fs1, RS K H0 B0 H σ (if cleans os then τ else Dv.frzAt ns τ) Fs1 ∧ Rps K H1 (Bor (fun a => B0 a ∨ a ∈ Fs1.flatten) F) os vs F ∧ Step Fs Fs1 H H := by
  by_cases hc : cleans os = true
  · rw [if_pos hc]
    exact ⟨Fs, rs, r.clean hc, Step.refl⟩
  · rw [if_neg hc]
    refine ⟨_, rs.frzAt ns, r.mono fun a z => ?_, zero_step⟩
    rcases z with (z | z) | z
    · exact .inl (.inl z)
    · obtain ⟨j, G, h1, e, z⟩ := zero_av ns z
      exact .inl (.inr ⟨j, G, h1, e, z⟩)
    · exact .inr z
theorem RS.setv {K : PySem.W.Frag} {H0 H : Hp} {B0 : Addr → Prop} {σ : St} {τ : Sl} {Fs : List (List Addr)} {i : Nat} {o : O} {v : V} (rs : RS K H0 B0 H σ τ Fs) (r : Rp K H (fun a => B0 a ∨ a ∈ Fs.flatten) o v []) :
    RS K H0 B0 H (σ.set i (some v)) (τ.set i (some o)) (Fs.set i []) ∧ (∀ a ∈ (Fs.set i []).flatten, a ∈ Fs.flatten) := by
  refine ⟨rs.set (F := []) (Same.refl H) (r.mono fun a z => z.elim id fun q => nomatch q) List.nodup_nil (fun a z => nomatch z), fun a z => ?_⟩
  rcases flat_set z with z | ⟨j, G, _, e, z⟩
  · cases z
  · exact mem_flat e z
theorem ds_par {ns : List Nat} {i j : Nat} {x y : Str} {a b : Expr} {fs : SEs} {px py pt pos : Pos} {kt k2 pt2} (hc : X.calm = true) (hN : X.N.Nodup) (ha : DA X ns [a, b] fs) (hi : X.N[i]? = some x := by rfl) (hj : X.N[j]? = some y := by rfl) (hij : i ≠ j := by decide)
    (hx : X.env.scope.names.lookup x = some .local := by rfl) (hy : X.env.scope.names.lookup y = some .local := by rfl)
    (hw : swappedStores [.Tuple [.Name x px, .Name y py] kt pt] (.Tuple [a, b] k2 pt2) X.env = pure (some [x, y]) := by rfl)
    (hs : swapsWithSole [.Tuple [.Name x px, .Name y py] kt pt] (.Tuple [a, b] k2 pt2) pos.line X.env = pure false := by rfl) :
    DS X (.Assign [.Tuple [.Name x px, .Name y py] kt pt] (.Tuple [a, b] k2 pt2) pos) (sPar ns i j fs) := by
  refine (ps_par hc hN hi hj hij hx hy ha hw hs).byD fun D σ H h => ?_
  obtain ⟨H0, B0, τ, Fs, r, rs, hr, k⟩ := h
  obtain ⟨os, ho, hr⟩ := bind_some hr
  refine ⟨H0, B0, τ, Fs, os, rs, ho, fun vs H1 F s1 r1 n1 f1 => ?_⟩
  match os, hr with
  | [o, p], hr =>
    cases hr
    obtain ⟨Fs1, rs1, r2, st1⟩ := rs.takens r1
    have av : ∀ a ∈ F, ¬ (B0 a ∨ a ∈ Fs1.flatten) := fun a z q => mut_some (rs1.mutAv q) (f1 a z)
    obtain ⟨v, w, F1, F2, rfl, _, q1, q2⟩ := rps2 ((r2.mono fun _ => Or.inl).frz av)
    rename_i e
    obtain ⟨rfl, rfl⟩ := List.append_eq_nil_iff.mp e.symm
    obtain ⟨rs2, sub2⟩ := (rs1.go s1).setv (i := i) q1
    obtain ⟨rs3, sub3⟩ := rs2.setv (i := j) (q2.mono fun a z => z.imp id (sub2 a))
    exact ⟨v, w, rfl, k _ H1 _ rs3 (st1.trans ⟨Ext.of s1, fun a z => .inl (sub2 a (sub3 a z))⟩ fun x z => rs.mutF z)⟩
theorem ds_par3 {ns : List Nat} {i j l : Nat} {x y z : Str} {a b c : Expr} {fs : SEs} {px py pz pt pos : Pos} {kt k2 pt2} (hc : X.calm = true) (hN : X.N.Nodup) (ha : DA X ns [a, b, c] fs) (hi : X.N[i]? = some x := by rfl) (hj : X.N[j]? = some y := by rfl) (hl : X.N[l]? = some z := by rfl) (hij : i ≠ j := by decide) (hil : i ≠ l := by decide) (hjl : j ≠ l := by decide)
    (hx : X.env.scope.names.lookup x = some .local := by rfl) (hy : X.env.scope.names.lookup y = some .local := by rfl) (hz : X.env.scope.names.lookup z = some .local := by rfl)
    (hw : swappedStores [.Tuple [.Name x px, .Name y py, .Name z pz] kt pt] (.Tuple [a, b, c] k2 pt2) X.env = pure (some [x, y, z]) := by rfl)
    (hs : swapsWithSole [.Tuple [.Name x px, .Name y py, .Name z pz] kt pt] (.Tuple [a, b, c] k2 pt2) pos.line X.env = pure false := by rfl) :
    DS X (.Assign [.Tuple [.Name x px, .Name y py, .Name z pz] kt pt] (.Tuple [a, b, c] k2 pt2) pos) (sPar3 ns i j l fs) := by
  refine (ps_par3 hc hN hi hj hl hij hil hjl hx hy hz ha hw hs).byD fun D σ H h => ?_
  obtain ⟨H0, B0, τ, Fs, r, rs, hr, k⟩ := h
  obtain ⟨os, ho, hr⟩ := bind_some hr
  refine ⟨H0, B0, τ, Fs, os, rs, ho, fun vs H1 F s1 r1 n1 f1 => ?_⟩
  match os, hr with
  | [o, p, q], hr =>
    cases hr
    obtain ⟨Fs1, rs1, r2, st1⟩ := rs.takens r1
    have av : ∀ a ∈ F, ¬ (B0 a ∨ a ∈ Fs1.flatten) := fun a z q => mut_some (rs1.mutAv q) (f1 a z)
    obtain ⟨v, vr, F1, F2, e1, e2, q1, q2⟩ := (r2.mono fun _ => Or.inl).frz av
    obtain ⟨rfl, rfl⟩ := List.append_eq_nil_iff.mp e2.symm
    obtain ⟨w, u, F1, F2, e3, e4, q3, q4⟩ := rps2 q2
    obtain ⟨rfl, rfl⟩ := List.append_eq_nil_iff.mp e4.symm
    obtain ⟨rs2, sub2⟩ := (rs1.go s1).setv (i := i) q1
    obtain ⟨rs3, sub3⟩ := rs2.setv (i := j) (q3.mono fun a z => z.imp id (sub2 a))
    obtain ⟨rs4, sub4⟩ := rs3.setv (i := l) (q4.mono fun a z => z.imp id fun z => sub2 a (sub3 a z))
    exact ⟨v, w, u, by rw [e1, e3], k _ H1 _ rs4 (st1.trans ⟨Ext.of s1, fun a z => .inl (sub2 a (sub3 a (sub4 a z)))⟩ fun x z => rs.mutF z)⟩
end
/-! ### the def's rule -/
theorem start_rs {K : PySem.W.Frag} {H : Hp} {B : Addr → Prop} {os : List O} {vs : List V} {N : List Str} (r : Rps K H B os vs []) (m : MutB B H) (hN : os.length ≤ N.length) :
    RS K H B H (L2.start N vs) (os.map (fun o => some (frz o)) ++ List.replicate (N.length - os.length) none) (List.replicate N.length []) := by
  have rz : Rps K H B (frzs os) vs [] := r.frz (F := []) (fun a z => nomatch z)
  have hl := r.len
  refine ⟨Same.refl _, m, fun a z => ?_, ?_, ?_, ?_, fun a z => ?_, fun i o h => ?_, fun i h => ?_⟩
  · rw [rep_flat] at z; cases z
  · rw [List.length_replicate, List.length_append, List.length_map, List.length_replicate]; omega
  · unfold L2.start
    rw [List.length_append, List.length_map, List.length_replicate, List.length_append, List.length_map, List.length_replicate, hl]
  · rw [rep_flat]; exact List.nodup_nil
  · rw [rep_flat] at z; cases z
  · have h1 : i < os.length := by
      by_cases hi : i < os.length
      · exact hi
      · rw [List.getElem?_append_right (by rw [List.length_map]; omega)] at h
        have := List.mem_of_getElem? h
        cases (List.mem_replicate.mp this).2
    rw [List.getElem?_append_left (by rw [List.length_map]; exact h1), List.getElem?_map] at h
    obtain ⟨o', h2, h3⟩ := Option.map_eq_some_iff.mp h
    cases h3
    have h4 : (frzs os)[i]? = some (frz o') := by rw [frzs_eq, List.getElem?_map, h2]; rfl
    obtain ⟨v, F1, e1, e2, e3⟩ := rz.at h4
    have z := sub_nil e3 rfl
    subst z
    refine ⟨v, [], ?_, rep_some (by omega), e2.mono fun a z => z.elim id fun z => by rw [rep_flat] at z; cases z⟩
    unfold L2.start
    rw [List.getElem?_append_left (by rw [List.length_map]; exact (List.getElem?_eq_some_iff.mp e1).1), List.getElem?_map, e1]
    rfl
  · have hi := (List.getElem?_eq_some_iff.mp h).1
    rw [List.length_append, List.length_map, List.length_replicate] at hi
    exact rep_some (by omega)
theorem fn_ok {P : Program} {w : World} {K : PySem.W.Frag} {mg : Str → Option Value} {base : Heap} {x qual : Str} {st : Stmt} {f : Addr} {fd : FuncData} {N ps : List Str} {k : Nat} {body : SS} (F : Fun K x qual st f fd) (S : FnScope N ps (defScope st))
    (hb : ∀ (cdv : Value) (A : Around) (outer : List Env) (s : Shared) (H : Hp) (E : XK), Room k (A.deeper (envOfC qual (defScope st) s.heap.objs.size f cdv)) → DSs (cxOf CX0 P w K mg base N qual (defScope st) f cdv A outer s H E).nox (defBody st) body) :
    FnOk P w K mg base CX0 (k + 1) f fd ps (spF K ps.length (fnD ps.length N.length body)) := by
  have hpN : ps.length ≤ N.length := by
    have := congrArg List.length S.pre
    rw [List.length_take] at this
    omega
  refine F.ok S (fun vs H Q E ⟨os, B, o, h1, h2, _⟩ => by rw [← h2.len, h1]) fun cdv A outer s H vs Q E hr h => ?_
  obtain ⟨os, B, o, h1, h2, h3, h4, h5⟩ := h
  refine ⟨_, hb cdv A outer s H E hr, ?_⟩
  unfold fnD at h4
  rw [if_pos h1] at h4
  have rs := start_rs (N := N) h2 h3 (by omega)
  rw [h1] at rs
  split at h4
  · rename_i o' hbody
    cases h4
    exact ⟨H, B, _, _, .rt o, rs, hbody, fun v H' F s r n f => h5 v H' F s r n f⟩
  · rename_i τ' hbody
    cases h4
    exact ⟨H, B, _, _, .nx τ', rs, hbody, fun σ' H' Fs' rs' st' => h5 .non H' [] rs'.same ⟨rfl, rfl⟩ List.nodup_nil fun a z => nomatch z⟩
  · cases h4
end Dv
end
section
set_option Elab.async false
set_option linter.all false
set_option maxRecDepth 100000
/-! Dq: a def as it stands, a def that keeps its promise, the end. -/
namespace Dv
open PySem PySem.Spec L2
open PyProof.Rows hiding St
/-- the def stands -/
def DefF (K : PySem.W.Frag) (mg : Str → Option Value) (x : Str) (st : Stmt) (ps : List Str) : Prop := ∃ f fd, Fun K x x st f fd ∧ mg x = some (.ref f) ∧ ∀ us : List Value, us.length = ps.length → bindArgs fd ⟨us, []⟩ = pure (ps.zip us)
/-- .. and keeps its promise -/
def Ok (P : Program) (w : World) (K : PySem.W.Frag) (mg : Str → Option Value) (base : Heap) (k : Nat) (x : Str) (ps : List Str) (fn : List O → Option O) : Prop :=
  ∃ f fd, FnOk P w K mg base CX0 k f fd ps (spF K ps.length fn) ∧ mg x = some (.ref f) ∧ PySem.W.keepIn K (.ref f) = true ∧ (∀ us : List Value, us.length = ps.length → bindArgs fd ⟨us, []⟩ = pure (ps.zip us)) ∧ ∃ oc od osl, K.lookup f = some ⟨oc, od, .func fd, osl⟩
theorem fun_lk {K : PySem.W.Frag} {x q : Str} {st : Stmt} {f : Addr} {fd : FuncData} (F : Fun K x q st f fd) : ∃ oc od osl, K.lookup f = some ⟨oc, od, .func fd, osl⟩ := by
  obtain ⟨oc, od, kV, doc, pm, an, cdv, ct, osl, rfl, lk, hcd⟩ := F.ex
  exact ⟨oc, od, osl, lk⟩
theorem def_mk {K : PySem.W.Frag} {h : Heap} {mg : Str → Option Value} {x : Str} {st : Stmt} {ps : List Str} {f : Addr} {oc : Value} {od an : Option Addr} {osl : Array (Option Value)} {kV doc pm cdv ct : Value} (X : K.In h) (G : h.Ns mainGlobals mg)
    (a : PySem.W.nsIn K mainGlobals x = some (some (.ref f))) (l : K.lookup f = some ⟨oc, od, .func (PySem.W.fnOf x x (defArgs st) (defBody st) (defScope st) .none kV doc pm an cdv ct), osl⟩) (c : PySem.W.codeIn K cdv x = true) (k : PySem.W.keepIn K (.ref f) = true)
    (b : ∀ us : List Value, us.length = ps.length → bindArgs (PySem.W.fnOf x x (defArgs st) (defBody st) (defScope st) .none kV doc pm an cdv ct) ⟨us, []⟩ = pure (ps.zip us)) : DefF K mg x st ps :=
  ⟨f, _, fun_mk l c k, PySem.W.mg_of X G a, b⟩
section
variable {P : Program} {w : World} {K : PySem.W.Frag} {mg : Str → Option Value} {base : Heap}
theorem ok_mk {x : Str} {st : Stmt} {N ps : List Str} {k : Nat} {body : SS} (D : DefF K mg x st ps) (S : FnScope N ps (defScope st))
    (hb : ∀ (f : Addr) (cdv : Value) (A : Around) (outer : List Env) (s : Shared) (H : Hp) (E : XK), Room k (A.deeper (envOfC x (defScope st) s.heap.objs.size f cdv)) → DSs (cxOf CX0 P w K mg base N x (defScope st) f cdv A outer s H E).nox (defBody st) body) :
    Ok P w K mg base (k + 1) x ps (fnD ps.length N.length body) := by
  obtain ⟨f, fd, F, g, b⟩ := D
  exact ⟨f, fd, fn_ok F S (hb f), g, F.kp, b, fun_lk F⟩
theorem ok_none {x : Str} {st : Stmt} {ps : List Str} (D : DefF K mg x st ps) : Ok P w K mg base 0 x ps fun _ => none := by
  obtain ⟨f, fd, F, g, b⟩ := D
  exact ⟨f, fd, fn_none, g, F.kp, b, fun_lk F⟩
theorem Ok.up {j k : Nat} {x : Str} {ps : List Str} {fn : List O → Option O} (h : Ok P w K mg base j x ps fn) (i : j ≤ k) : Ok P w K mg base k x ps fn := by
  obtain ⟨f, fd, F, g, b⟩ := h
  exact ⟨f, fd, F.mono i, g, b⟩
/-- another function with the same values -/
theorem Ok.imp {k : Nat} {x : Str} {ps : List Str} {fn fn' : List O → Option O} (h : Ok P w K mg base k x ps fn) (i : ∀ os o, fn' os = some o → fn os = some o) : Ok P w K mg base k x ps fn' := by
  obtain ⟨f, fd, F, g, b⟩ := h
  exact ⟨f, fd, F.imp fun vs H Q E ⟨os, B, o, h1, h2, h3, h4, h5⟩ => ⟨os, B, o, h1, h2, h3, i os o h4, h5⟩, g, b⟩
end
theorem de_def {X : Cx} {ns : List Nat} {e : Expr} {es : List Expr} {fs : SEs} {pos : Pos} {k : Nat} {ps : List Str} {fn : List O → Option O} {x : Str} {p : Pos} (C : Ok X.prog X.w X.K X.mg X.base k x ps fn) (hr : Room k X.A) (ha : DA X ns (e :: es) fs) (hlen : ∀ τ os, fs τ = some os → os.length = ps.length)
    (hg : Gl X x := by rfl) (hdb : (x == ("__debug__" : Str)) = false := by decide) (hl : (e :: es).length = ps.length := by rfl) (he : starEach (e :: es) X.env = (false, eval e X.env) :: starEach es X.env := by rfl) (hpl : (backTo pos (starEach es X.env)).any (·.1) = false := by rfl) :
    DE X ns (.Call (.Name x p) (e :: es) [] pos) (xCall fn fs) := by
  obtain ⟨f, fd, F, g, kp, b, _⟩ := C
  exact de_call F hr hg g kp (.all b) ha hl hdb he hpl hlen
theorem xs_len0 : ∀ τ os, xsN τ = some os → os.length = 0 := fun τ os h => by cases h; rfl
theorem xs_len {a : SE} {r : SEs} {n : Nat} (h : ∀ τ os, r τ = some os → os.length = n) : ∀ τ os, xsC a r τ = some os → os.length = n + 1 := fun τ os q => by
  obtain ⟨x, hx, q⟩ := bind_some q
  obtain ⟨xs, hxs, q⟩ := bind_some q
  cases q
  show xs.length + 1 = n + 1
  rw [h τ xs hxs]
/-- the built-in names stand -/
structure Blt (mg : Str → Option Value) : Prop where
  abs : mg "abs" = none
  all : mg "all" = none
  any : mg "any" = none
  enumerate : mg "enumerate" = none
  int : mg "int" = none
  isinstance : mg "isinstance" = none
  len : mg "len" = none
  list : mg "list" = none
  max : mg "max" = none
  min : mg "min" = none
  range : mg "range" = none
  zip : mg "zip" = none
  bool : mg "bool" = none
  tuple : mg "tuple" = none
  str : mg "str" = none
  sorted : mg "sorted" = none
  sum : mg "sum" = none
  dict : mg "dict" = none
/-- the end: of the law's def -/
theorem end_law {l : PySem.W.OpenLaw} {q : Program} {loose : List Str} {XP : (Str → Option Value) → Heap → Prop} {YP : World → Heap → Prop} {d : DefRec} {K : Params → PySem.W.Frag} {k : Nat} {x : Str} {fn : List O → Option O} (hn : l.most = some 63) (hdf : d.params.defaults = []) (hr : Room k callerA)
    (hY : ∀ (w : World) (h : Heap), YP w h → (K w.params).In h)
    (F : ∀ (w : World) (mg : Str → Option Value) (h : Heap), (K w.params).In h → h.Ns mainGlobals mg → ∀ base : Heap, Ok l.prog w (K w.params) mg base k d.name [x] fn)
    (ht : ∀ ns : List Int, ns.length ≤ 63 → fn [.scr ns] = some (.bl true)) :
    PySem.W.WalkO q loose XP YP l.row.toRowW d [] (fun f vs => PySem.call f vs) := by
  refine L2.walk_of (n := 63) (k := k) (x := x) (CX := fun _ => CX0) (sp := fun w => spF (K w.params) 1 fn) hn (by decide) hdf hr hY (fun w mg fa h KX G hmg => ?_) (fun w H a ns hl hO hS => ?_) fun _ _ _ _ _ z => z
  · obtain ⟨f, fd, F1, g1, k1, b1, oc, od, osl, l1⟩ := F w mg h KX G h
    have e := hmg.symm.trans g1
    cases e
    refine ⟨fd, fun s u => .of_eq (b1 [u] rfl), fun base _ _ => ?_⟩
    obtain ⟨f2, fd2, F2, g2, k2, b2, oc2, od2, osl2, l2⟩ := F w mg h KX G base
    have e2 := g1.symm.trans g2
    cases e2
    rw [l1] at l2
    cases l2
    exact F2
  · refine ⟨[.scr ns], fun _ => False, .bl true, rfl, ⟨.ref a, [], [], [], rfl, rfl, ⟨a, rfl, rfl, fun H' k => ?_⟩, rfl, rfl⟩, fun _ z => z.elim, ht ns hl, fun v H' F s r n f => r.1⟩
    rcases hS with (hS | ⟨o, hS⟩) | hS
    · rcases hO a with z | ⟨_, _, z⟩ <;> rw [hS] at z <;> cases z
    · exact .inl (.inr ⟨o, k o _ hS⟩)
    · exact .inr hS
end Dv
end
section
set_option Elab.async false
set_option linter.all false
set_option maxRecDepth 100000
/-! Mt: tools for the mathematics over Dv. -/
namespace Dv
/-- far above all numbers here -/
def BIG : Nat := 2 ^ 250
theorem big_log {n : Nat} (h : n < BIG) : n.log2 < 2000 := by
  by_cases h0 : n = 0
  · subst h0; decide
  · exact (Nat.log2_lt h0).mpr (Nat.lt_of_lt_of_le h (Nat.pow_le_pow_right (by decide) (by decide)))
theorem mulOk_of {i j : Int} (hi : i.natAbs < BIG) (hj : j.natAbs < BIG) : mulOk i j = true := by
  unfold mulOk
  have := big_log hi
  have := big_log hj
  exact decide_eq_true (by omega)
theorem le_sLine {n : Nat} (h : n ≤ 4096) : (n ≤ sLine) = True := eq_true (Nat.le_trans h (by decide))
/-- not above n in size -/
abbrev Bd (n : Nat) (x : Int) : Prop := x.natAbs ≤ n
theorem Bd.mul {n m : Nat} {x y : Int} (hx : Bd n x) (hy : Bd m y) : Bd (n * m) (x * y) := by
  unfold Bd
  rw [Int.natAbs_mul]
  exact Nat.mul_le_mul hx hy
theorem mul_ok {n m : Nat} {x y : Int} (hx : Bd n x) (hy : Bd m y) (hn : n < BIG := by decide) (hm : m < BIG := by decide) : mulOk x y = true := mulOk_of (Nat.lt_of_le_of_lt hx hn) (Nat.lt_of_le_of_lt hy hm)
/-! ### lists of flat things -/
theorem frzs_flat' {xs : List O} (h : ∀ x ∈ xs, flat x = true) : frzs xs = xs := by
  apply frzs_flat
  rw [flats_eq, List.all_eq_true]
  exact h
theorem frzs_ints (L : List Int) : frzs (L.map O.int) = L.map O.int := frzs_flat' fun x h => by
  obtain ⟨a, _, rfl⟩ := List.mem_map.mp h
  rfl
mutual
theorem clean_of_flat : ∀ {o : O}, flat o = true → clean o = true
  | .non, _ => rfl
  | .bl _, _ => rfl
  | .int _, _ => rfl
  | .str _, _ => rfl
  | .scr _, _ => rfl
  | .anc _, _ => rfl
  | .kt _, _ => rfl
  | .tup xs, h => cleans_of_flats h
  | .lst _ _, h => nomatch h
  | .dK _ _ _, h => nomatch h
  | .dT _ _ _, h => nomatch h
theorem cleans_of_flats : ∀ {xs : List O}, flats xs = true → cleans xs = true
  | [], _ => rfl
  | x :: xs, h => by
    have h' : (flat x && flats xs) = true := h
    rw [Bool.and_eq_true] at h'
    show (clean x && cleans xs) = true
    rw [clean_of_flat h'.1, cleans_of_flats h'.2]; rfl
end
theorem cleans_flat {xs : List O} (h : ∀ x ∈ xs, flat x = true) : cleans xs = true := cleans_of_flats (by rw [flats_eq, List.all_eq_true]; exact h)
theorem cleans_ints (L : List Int) : cleans (L.map O.int) = true := cleans_flat fun x h => by
  obtain ⟨a, _, rfl⟩ := List.mem_map.mp h
  rfl
/-- the item at i -/
def nth (L : List Int) (i : Int) : Int := L.getD i.toNat 0
theorem at_ints {L : List Int} {i : Int} (h0 : 0 ≤ i) (h1 : i < L.length) : at? (L.map O.int) i = some (.int (nth L i)) := by
  unfold at? nth
  rw [if_pos h0, List.getElem?_map, List.getD_eq_getElem?_getD]
  have : i.toNat < L.length := by omega
  rw [List.getElem?_eq_getElem this]
  rfl
theorem nth_mem {L : List Int} {i : Int} (h0 : 0 ≤ i) (h1 : i < L.length) : nth L i ∈ L := by
  unfold nth
  have : i.toNat < L.length := by omega
  rw [List.getD_eq_getElem?_getD, List.getElem?_eq_getElem this]
  exact List.getElem_mem this
/-! ### for -/
theorem forD_cons {g : TGd} {b : SS} {x : O} {xs : List O} {τ τ1 τ' : Sl} (h1 : g x τ = some τ1) (h2 : b τ1 = some (.nx τ')) : forD g b (x :: xs) τ = forD g b xs τ' := by
  show ((g x τ).bind fun τ1 => match b τ1 with | some (Fl.nx τ') => forD g b xs τ' | some (.ct τ') => forD g b xs τ' | some (.bk τ') => some (.nx τ') | some (.rt o) => some (.rt o) | none => none) = _
  rw [h1]
  show (match b τ1 with | some (Fl.nx τ') => forD g b xs τ' | some (.ct τ') => forD g b xs τ' | some (.bk τ') => some (.nx τ') | some (.rt o) => some (.rt o) | none => none) = _
  rw [h2]
/-! ### a map by a call, within a comprehension -/
theorem lcD_map {g : TGd} {e : SE} {h : O → O} : ∀ {xs : List O} {τ : Sl}, (∀ x ∈ xs, ∃ τ1, g x τ = some τ1 ∧ e τ1 = some (h x)) → lcD g tY e xs τ = some (xs.map h)
  | [], _, _ => rfl
  | x :: xs, τ, H => by
    obtain ⟨τ1, h1, h2⟩ := H x List.mem_cons_self
    unfold lcD
    rw [h1]
    simp only [Option.bind_some, tY, if_true, h2]
    rw [lcD_map fun y hy => H y (List.mem_cons_of_mem _ hy)]
    rfl
theorem eqos_ints : ∀ (L M : List Int), eqos (L.map O.int) (M.map O.int) = decide (L = M)
  | [], [] => rfl
  | [], _ :: _ => rfl
  | _ :: _, [] => rfl
  | a :: L, b :: M => by
    show (eqo (.int a) (.int b) && eqos (L.map O.int) (M.map O.int)) = _
    rw [eqos_ints L M]
    show ((a == b) && _) = _
    by_cases h : a = b
    · subst h
      by_cases h' : L = M
      · subst h'; simp
      · simp [h']
    · simp [h]
end Dv
namespace Dv
/-! ### good data -/
def gd : Nat → O → Bool
  | _, .non => true
  | _, .bl _ => true
  | _, .int _ => true
  | _, .str x => strOkD x
  | n + 1, .tup xs => decide (xs.length ≤ sLine) && xs.all (gd n)
  | n + 1, .lst _ xs => decide (xs.length ≤ sLine) && xs.all (gd n)
  | _, _ => false
theorem gd_sh : ∀ {n m : Nat} {x : O}, n ≤ m → gd n x = true → shO m x = true
  | n, m, .non, _, _ => by cases m <;> rfl
  | n, m, .bl _, _, _ => by cases m <;> rfl
  | n, m, .int _, _, _ => by cases m <;> rfl
  | n, m, .str x, _, h => by cases n <;> cases m <;> exact h
  | n + 1, m + 1, .tup xs, i, h => by
    have h' : (decide (xs.length ≤ sLine) && xs.all (gd n)) = true := h
    rw [Bool.and_eq_true, List.all_eq_true] at h'
    show xs.all (shO m) = true
    rw [List.all_eq_true]
    exact fun y hy => gd_sh (Nat.le_of_succ_le_succ i) (h'.2 y hy)
  | n + 1, m + 1, .lst _ xs, i, h => by
    have h' : (decide (xs.length ≤ sLine) && xs.all (gd n)) = true := h
    rw [Bool.and_eq_true, List.all_eq_true] at h'
    show xs.all (shO m) = true
    rw [List.all_eq_true]
    exact fun y hy => gd_sh (Nat.le_of_succ_le_succ i) (h'.2 y hy)
  | n + 1, 0, .tup xs, i, _ => by omega
  | n + 1, 0, .lst _ xs, i, _ => by omega
  | 0, _, .tup _, _, h => nomatch h
  | 0, _, .lst _ _, _, h => nomatch h
  | 0, _, .dK _ _ _, _, h => nomatch h
  | 0, _, .dT _ _ _, _, h => nomatch h
  | 0, _, .scr _, _, h => nomatch h
  | 0, _, .anc _, _, h => nomatch h
  | 0, _, .kt _, _, h => nomatch h
  | n + 1, _, .kt _, _, h => nomatch h
  | n + 1, _, .dK _ _ _, _, h => nomatch h
  | n + 1, _, .dT _ _ _, _, h => nomatch h
  | n + 1, _, .scr _, _, h => nomatch h
  | n + 1, _, .anc _, _, h => nomatch h
mutual
theorem eqo_refl : ∀ {n : Nat} {x : O}, gd n x = true → eqo x x = true
  | _, .non, _ => rfl
  | _, .bl b, _ => by show (b == b) = true; exact beq_self_eq_true b
  | _, .int b, _ => by show (b == b) = true; exact beq_self_eq_true b
  | _, .str b, _ => by show (b == b) = true; simp
  | n + 1, .tup xs, h => by
    have h' : (decide (xs.length ≤ sLine) && xs.all (gd n)) = true := h
    rw [Bool.and_eq_true] at h'
    exact eqos_refl h'.2
  | n + 1, .lst _ xs, h => by
    have h' : (decide (xs.length ≤ sLine) && xs.all (gd n)) = true := h
    rw [Bool.and_eq_true] at h'
    exact eqos_refl h'.2
  | 0, .tup _, h => nomatch h
  | 0, .lst _ _, h => nomatch h
  | 0, .dK _ _ _, h => nomatch h
  | 0, .dT _ _ _, h => nomatch h
  | 0, .scr _, h => nomatch h
  | 0, .anc _, h => nomatch h
  | 0, .kt _, h => nomatch h
  | n + 1, .kt _, h => nomatch h
  | n + 1, .dK _ _ _, h => nomatch h
  | n + 1, .dT _ _ _, h => nomatch h
  | n + 1, .scr _, h => nomatch h
  | n + 1, .anc _, h => nomatch h
theorem eqos_refl : ∀ {n : Nat} {xs : List O}, xs.all (gd n) = true → eqos xs xs = true
  | _, [], _ => rfl
  | n, x :: xs, h => by
    rw [List.all_cons, Bool.and_eq_true] at h
    show (eqo x x && eqos xs xs) = true
    rw [eqo_refl h.1, eqos_refl h.2]; rfl
end
theorem allB_true : ∀ (n : Nat), allB (List.replicate n (O.bl true)) = some (List.replicate n true)
  | 0 => rfl
  | n + 1 => by
    show ((asB (O.bl true)).bind fun b => (allB (List.replicate n (O.bl true))).bind fun bs => some (b :: bs)) = _
    rw [allB_true n]; rfl
/-- all of a map to True -/
theorem allB_map {α : Type} (L : List α) (p : α → Bool) : allB (L.map fun x => O.bl (p x)) = some (L.map p) := by
  induction L with
  | nil => rfl
  | cons a L ih =>
    show ((asB (O.bl (p a))).bind fun b => (allB (L.map fun x => O.bl (p x))).bind fun bs => some (b :: bs)) = _
    rw [ih]; rfl
end Dv
namespace Dv
theorem sh_non {n : Nat} : shO n .non = true := by cases n <;> rfl
theorem sh_bl {n : Nat} {b : Bool} : shO n (.bl b) = true := by cases n <;> rfl
theorem sh_int {n : Nat} {b : Int} : shO n (.int b) = true := by cases n <;> rfl
theorem sh_tup {xs : List O} : shO 20 (.tup xs) = xs.all (shO 19) := rfl
theorem sh_lst {o : Bool} {xs : List O} : shO 20 (.lst o xs) = xs.all (shO 19) := rfl
theorem eqo_int {a b : Int} : eqo (.int a) (.int b) = decide (a = b) := by
  show (a == b) = _
  rw [Bool.beq_eq_decide_eq]
theorem eqo_bl {a b : Bool} : eqo (.bl a) (.bl b) = (a == b) := rfl
theorem eqo_tup {a b : List O} : eqo (.tup a) (.tup b) = eqos a b := rfl
theorem eqo_lst {o p : Bool} {a b : List O} : eqo (.lst o a) (.lst p b) = eqos a b := rfl
theorem eqos_nil : eqos [] [] = true := rfl
theorem eqos_cons {a b : O} {xs ys : List O} : eqos (a :: xs) (b :: ys) = (eqo a b && eqos xs ys) := rfl
end Dv
namespace Dv
theorem beq_tt : (true == true) = true := rfl
theorem beq_ff : (false == false) = true := rfl
theorem beq_tf : (true == false) = false := rfl
theorem beq_ft : (false == true) = false := rfl
end Dv
end
section
set_option Elab.async false
set_option linter.all false
set_option maxRecDepth 100000
/-! Mz: sizes, found by the class -/
namespace Dv
/-- |x| < 2^(64 k) -/
class Sz (k : outParam Nat) (x : Int) : Prop where
  lt : x.natAbs < 2 ^ (64 * k)
theorem sz_mono {a b : Nat} {x : Int} (h : Sz a x) (i : a ≤ b) : Sz b x := ⟨Nat.lt_of_lt_of_le h.lt (Nat.pow_le_pow_right (by decide) (Nat.mul_le_mul_left _ i))⟩
theorem two_pow_add (a b : Nat) : 2 ^ (64 * (a + b)) = 2 ^ (64 * a) * 2 ^ (64 * b) := by rw [Nat.mul_add, Nat.pow_add]
theorem pow_succ64 (a : Nat) : 2 ^ (64 * a) * 2 ≤ 2 ^ (64 * (a + 1)) := by
  rw [two_pow_add]
  exact Nat.mul_le_mul_left _ (by decide)
instance (priority := 50) (n : Nat) : Sz (n.log2 / 64 + 1) (no_index (OfNat.ofNat n : Int)) := ⟨by
  show n < _
  have h : n < 2 ^ (n.log2 + 1) := Nat.lt_log2_self
  refine Nat.lt_of_lt_of_le h (Nat.pow_le_pow_right (by decide) ?_)
  omega⟩
instance {a : Nat} {x : Int} [h : Sz a x] : Sz a (-x) := ⟨by rw [Int.natAbs_neg]; exact h.lt⟩
instance {a b : Nat} {x y : Int} [h : Sz a x] [i : Sz b y] : Sz (a + b) (x * y) := ⟨by
  rw [Int.natAbs_mul, two_pow_add]
  exact Nat.mul_lt_mul'' h.lt i.lt⟩
theorem sz_max {a b : Nat} {x y : Int} (h : Sz a x) (i : Sz b y) : x.natAbs + y.natAbs < 2 ^ (64 * (max a b + 1)) := by
  have h1 := (sz_mono h (Nat.le_max_left a b)).lt
  have h2 := (sz_mono i (Nat.le_max_right a b)).lt
  have := pow_succ64 (max a b)
  omega
instance {a b : Nat} {x y : Int} [h : Sz a x] [i : Sz b y] : Sz (max a b + 1) (x + y) := ⟨by
  have := sz_max h i
  omega⟩
instance {a b : Nat} {x y : Int} [h : Sz a x] [i : Sz b y] : Sz (max a b + 1) (x - y) := ⟨by
  have := sz_max h i
  omega⟩
instance {a b : Nat} {x y : Int} {c : Prop} [Decidable c] [h : Sz a x] [i : Sz b y] : Sz (max a b) (if c then x else y) := by
  split
  · exact sz_mono h (Nat.le_max_left a b)
  · exact sz_mono i (Nat.le_max_right a b)
instance {a : Nat} {x y : Int} [h : Sz a x] : Sz (a + 1) (x / y) := ⟨by
  refine Nat.lt_of_le_of_lt (Int.natAbs_ediv_le_natAbs x y) (Nat.lt_of_lt_of_le h.lt (Nat.pow_le_pow_right (by decide) (by omega)))⟩
theorem log_of {n k : Nat} (h : n < 2 ^ (64 * k)) : n.log2 ≤ 64 * k := by
  by_cases h0 : n = 0
  · subst h0; exact Nat.zero_le _
  · exact Nat.le_of_lt ((Nat.log2_lt h0).mpr h)
theorem mulOk_sz {a b : Nat} {x y : Int} [h : Sz a x] [i : Sz b y] (s : Nat.ble (a + b) 15000 = true) : mulOk x y = true := by
  have h1 := log_of h.lt
  have h2 := log_of i.lt
  have s' := Nat.le_of_ble_eq_true s
  unfold mulOk
  exact decide_eq_true (by omega)
theorem divOk_sz {a : Nat} {x : Int} (p : 0 < x) [h : Sz a x] (s : Nat.ble a 140 = true) : divOk x = true := by
  have h1 := log_of h.lt
  have s' := Nat.le_of_ble_eq_true s
  unfold divOk
  rw [decide_eq_true p, decide_eq_true (by omega)]
  rfl
theorem sz_of {k : Nat} {x : Int} (h : x.natAbs < 2 ^ (64 * k)) : Sz k x := ⟨h⟩
theorem sz1 {x : Int} (h : -18446744073709551616 < x) (h' : x < 18446744073709551616) : Sz 1 x := ⟨by show _ < 18446744073709551616; omega⟩
theorem sz_le {a : Nat} {x y : Int} (h : Sz a y) (i : x.natAbs ≤ y.natAbs) : Sz a x := ⟨Nat.lt_of_le_of_lt i h.lt⟩
end Dv
namespace Dv
theorem cut_map {α β : Type} (f : α → β) (L : List α) (lo hi : Option Int) : cut (L.map f) lo hi = (cut L lo hi).map f := by
  unfold cut
  rw [List.length_map, ← List.map_drop, ← List.map_take]
theorem cut_from {α : Type} {L : List α} {k : Nat} : cut L (some (k : Int)) none = L.drop k := by
  unfold cut sIx
  have h : ¬ ((k : Int) < 0) := by omega
  simp only [h, if_false, Int.toNat_natCast]
  by_cases e : k ≤ L.length
  · rw [Nat.min_eq_left e, List.take_of_length_le (by rw [List.length_drop]; omega)]
  · rw [Nat.min_eq_right (by omega), List.drop_of_length_le (Nat.le_refl _), List.drop_of_length_le (by omega), List.take_nil]
/-- bounded -/
def Cells (n : Nat) (L : List Int) : Prop := n ≤ L.length ∧ ∀ x ∈ L, 0 ≤ x ∧ x < 1000003
theorem Cells.at {n : Nat} {L : List Int} (h : Cells n L) (i : Int) (h0 : 0 ≤ i) (hi : i < n) : ∃ x, at? (L.map O.int) i = some (.int x) ∧ nth L i = x ∧ 0 ≤ x ∧ x < 1000003 :=
  ⟨_, at_ints h0 (by have := h.1; omega), rfl, h.2 _ (nth_mem h0 (by have := h.1; omega))⟩
theorem Cells.drop {n : Nat} {L : List Int} (k : Nat) (h : Cells (n + k) L) : Cells n (L.drop k) :=
  ⟨by rw [List.length_drop]; have := h.1; omega, fun x hx => h.2 x (List.mem_of_mem_drop hx)⟩
theorem Cells.mono {n m : Nat} {L : List Int} (h : Cells n L) (i : m ≤ n) : Cells m L := ⟨Nat.le_trans i h.1, h.2⟩
end Dv
namespace Dv
/-! ### steps -/
theorem fnD_of {n m : Nat} {b : SS} {os : List O} {τ : Sl} {o : O} (hl : os.length = n) (hτ : os.map (fun o => some (frz o)) ++ List.replicate (m - n) none = τ) (h : b τ = some (.rt o)) : fnD n m b os = some o := by
  unfold fnD
  rw [if_pos hl, hτ, h]
theorem seq_nx {a b : SS} {τ τ' : Sl} {r : Option Fl} (h : a τ = some (.nx τ')) (k : b τ' = r) : sSeq a b τ = r := by
  unfold sSeq; rw [h]; exact k
theorem seq_rt {a b : SS} {τ : Sl} {o : O} (h : a τ = some (.rt o)) : sSeq a b τ = some (.rt o) := by
  unfold sSeq; rw [h]
theorem seq_E {a b : SS} {τ : Sl} {R : Option Fl → Prop} (Q : Sl → Prop) (h : ∃ τ', a τ = some (.nx τ') ∧ Q τ') (k : ∀ τ', Q τ' → R (b τ')) : R (sSeq a b τ) := by
  obtain ⟨τ', h1, q⟩ := h
  rw [seq_nx h1 rfl]
  exact k τ' q
theorem if_t {c : ST} {a b : SS} {τ : Sl} {r : Option Fl} (h : c τ = some true) (k : a τ = r) : sIf c a b τ = r := by
  unfold sIf; rw [h]; exact k
theorem if_f {c : ST} {a b : SS} {τ : Sl} {r : Option Fl} (h : c τ = some false) (k : b τ = r) : sIf c a b τ = r := by
  unfold sIf; rw [h]; exact k
theorem set_nx {ns : List Nat} {i : Nat} {a : SE} {τ : Sl} {o : O} (h : a τ = some o) {τ' : Sl} (k : put ns i o τ = τ') : sSet ns i a τ = some (.nx τ') := by
  unfold sSet; rw [h, Option.bind_some, k]
theorem at_20 {a b : O} : at? [a, b] 0 = some a := rfl
theorem at_21 {a b : O} : at? [a, b] 1 = some b := rfl
theorem at_30 {a b c : O} : at? [a, b, c] 0 = some a := rfl
theorem at_31 {a b c : O} : at? [a, b, c] 1 = some b := rfl
theorem at_32 {a b c : O} : at? [a, b, c] 2 = some c := rfl
theorem at_40 {a b c d : O} : at? [a, b, c, d] 0 = some a := rfl
theorem at_41 {a b c d : O} : at? [a, b, c, d] 1 = some b := rfl
theorem at_42 {a b c d : O} : at? [a, b, c, d] 2 = some c := rfl
theorem at_43 {a b c d : O} : at? [a, b, c, d] 3 = some d := rfl
theorem at_10 {a : O} : at? [a] 0 = some a := rfl
end Dv
namespace Dv
/-- a for over the first n numbers -/
theorem mem_rng {x : O} : ∀ {n : Nat} {lo : Int}, x ∈ rngL lo n → ∃ k : Int, x = .int k ∧ lo ≤ k ∧ k < lo + n
  | 0, lo, h => nomatch h
  | n + 1, lo, h => by
    rcases List.mem_cons.mp h with h | h
    · exact ⟨lo, h, Int.le_refl _, by omega⟩
    · obtain ⟨k, e, h1, h2⟩ := mem_rng h
      exact ⟨k, e, by omega, by omega⟩
/-- three numbers of size k -/
def IsS (k : Nat) (o : O) : Prop := ∃ x y w : Int, o = .tup [.int x, .int y, .int w] ∧ Sz k x ∧ Sz k y ∧ Sz k w
theorem IsS.flat {k : Nat} {o : O} (h : IsS k o) : Dv.flat o = true := by
  obtain ⟨x, y, w, rfl, _⟩ := h
  rfl
theorem frzs_S {k : Nat} {sp : List O} (h : ∀ s ∈ sp, IsS k s) : frzs sp = sp := frzs_flat' fun s hs => (h s hs).flat
theorem lt_line {n : Nat} (h : n ≤ 100000) : (n < sLine) = True := eq_true (Nat.lt_of_le_of_lt h (by decide))
end Dv
namespace Dv
/-- whether a side of three numbers holds a place -/
def holdO (x y w : Int) : O → Bool
  | .tup [.int a, .int b, .int c] => decide (a * x + b * y ≤ c * w)
  | _ => false
theorem all_id {α : Type} (L : List α) (p : α → Bool) : (L.map p).all id = L.all p := by
  rw [List.all_map]; rfl
end Dv
end
section
set_option Elab.async false
set_option linter.all false
set_option maxRecDepth 100000
/-! Ms: lists of triples, sorted lists -/
namespace Dv
abbrev S3 := Int × Int × Int
def sO (p : S3) : O := .tup [.int p.1, .int p.2.1, .int p.2.2]
theorem mem_sO {L : List S3} {x : O} (h : x ∈ L.map sO) : ∃ p ∈ L, x = sO p := by
  obtain ⟨p, h1, h2⟩ := List.mem_map.mp h
  exact ⟨p, h1, h2.symm⟩
theorem frz_sO (p : S3) : frz (sO p) = sO p := rfl
theorem clean_sO (p : S3) : clean (sO p) = true := rfl
theorem frzs_sO (L : List S3) : frzs (L.map sO) = L.map sO := frzs_flat' fun x h => by obtain ⟨p, _, rfl⟩ := mem_sO h; rfl
theorem flats_sO (L : List S3) : flats (L.map sO) = true := by
  rw [flats_eq, List.all_eq_true]
  exact fun x h => by obtain ⟨p, _, rfl⟩ := mem_sO h; rfl
theorem len_sO (L : List S3) : (L.map sO).length = L.length := List.length_map ..
theorem at_nat {α : Type} {L : List α} {i : Nat} {x : α} (h : L[i]? = some x) : at? L (i : Int) = some x := by
  unfold at?
  rw [if_pos (by omega), Int.toNat_natCast]
  exact h
/-- of size k -/
structure Bk (k : Nat) (p : S3) : Prop where
  x : Sz k p.1
  y : Sz k p.2.1
  w : Sz k p.2.2
theorem Bk.mono {k l : Nat} {p : S3} (h : Bk k p) (i : k ≤ l) : Bk l p := ⟨sz_mono h.x i, sz_mono h.y i, sz_mono h.w i⟩
/-! ### sorted -/
theorem leI_trans (a b c : List Int) (h : leI a b = true) (i : leI b c = true) : leI a c = true := by
  unfold leI at *
  exact decide_eq_true (List.le_trans (of_decide_eq_true h) (of_decide_eq_true i))
theorem leI_total (a b : List Int) : (leI a b || leI b a) = true := by
  unfold leI
  rw [Bool.or_eq_true, decide_eq_true_eq, decide_eq_true_eq]
  exact List.le_total a b
theorem leI_anti {a b : List Int} (h : leI a b = true) (i : leI b a = true) : a = b := by
  unfold leI at *
  exact List.le_antisymm (of_decide_eq_true h) (of_decide_eq_true i)
theorem sort_perm {a b : List (List Int)} (h : a.Perm b) : a.mergeSort leI = b.mergeSort leI :=
  ((List.mergeSort_perm a leI).trans (h.trans (List.mergeSort_perm b leI).symm)).eq_of_pairwise (fun _ _ _ _ h1 h2 => leI_anti h1 h2) (List.pairwise_mergeSort leI_trans leI_total a) (List.pairwise_mergeSort leI_trans leI_total b)
theorem neD_self {o p : Bool} {xs : List O} (h : gd 11 (.lst o xs) = true) : neD (.lst o xs) (.lst p xs) = some (.bl false) := by
  have h1 : shO 20 (.lst o xs) = true := gd_sh (by decide) h
  have h2 : shO 20 (.lst p xs) = true := h1
  have h3 : eqo (.lst o xs) (.lst o xs) = true := eqo_refl h
  have h4 : eqo (.lst o xs) (.lst p xs) = true := h3
  unfold neD
  rw [h1, h2, h4]; rfl
/-! ### insertion -/
section
variable {α : Type} (lt : α → α → Bool)
/-- no one is ahead of the one before -/
def Adj : List α → Prop
  | [] => True
  | [_] => True
  | a :: b :: r => lt b a = false ∧ Adj (b :: r)
theorem Adj.zip : ∀ {L : List α}, Adj lt L → ∀ p ∈ L.zip L.tail, lt p.2 p.1 = false
  | [], _, p, hp => nomatch hp
  | [_], _, p, hp => nomatch hp
  | a :: b :: r, h, p, hp => by
    rcases List.mem_cons.mp (show p ∈ (a, b) :: (b :: r).zip r from hp) with e | hp
    · rw [e]; exact h.1
    · exact Adj.zip h.2 p hp
end
end Dv
namespace Dv
end Dv
namespace Dv
theorem forD_rngAux {g : TGd} {b : SS} (Q : Nat → Sl → Prop) (N : Nat) (h : ∀ n τ, n < N → Q n τ → ∃ τ1 τ', g (.int n) τ = some τ1 ∧ b τ1 = some (.nx τ') ∧ Q (n + 1) τ') : ∀ (k n : Nat) (τ : Sl), n + k = N → Q n τ → ∃ τ', forD g b (rngL n k) τ = some (.nx τ') ∧ Q N τ'
  | 0, n, τ, e, q => by
    have e' : n = N := by omega
    subst e'
    exact ⟨τ, rfl, q⟩
  | k + 1, n, τ, e, q => by
    obtain ⟨τ1, τ', h1, h2, q'⟩ := h n τ (by omega) q
    obtain ⟨τ2, h3, q2⟩ := forD_rngAux Q N h k (n + 1) τ' (by omega) q'
    refine ⟨τ2, ?_, q2⟩
    show forD g b (.int n :: rngL (n + 1) k) τ = _
    rw [forD_cons h1 h2]
    exact h3
theorem forD_rng {g : TGd} {b : SS} (Q : Nat → Sl → Prop) {N : Nat} {τ : Sl} (h : ∀ n τ, n < N → Q n τ → ∃ τ1 τ', g (.int n) τ = some τ1 ∧ b τ1 = some (.nx τ') ∧ Q (n + 1) τ') (q : Q 0 τ) : ∃ τ', forD g b (rngL 0 N) τ = some (.nx τ') ∧ Q N τ' :=
  forD_rngAux Q N h N 0 τ (by omega) q
end Dv
namespace Dv
theorem frzs_rng (lo : Int) (n : Nat) : frzs (rngL lo n) = rngL lo n := frzs_flat' fun x h => by
  obtain ⟨k, rfl, _⟩ := mem_rng h
  rfl
end Dv
end
section
set_option Elab.async false
set_option linter.all false
set_option maxRecDepth 100000
/-! Mc: dicts of spots, pairs of a list -/
namespace Dv
def kS (p : S3) : List Key := [.inl p.1, .inl p.2.1, .inl p.2.2]
theorem kS_inj {p q : S3} (h : kS p = kS q) : p = q := by
  obtain ⟨a, b, c⟩ := p
  obtain ⟨d, e, f⟩ := q
  unfold kS at h
  simp only [List.cons.injEq, Sum.inl.injEq, and_true] at h
  obtain ⟨rfl, rfl, rfl⟩ := h
  rfl
theorem keyL_sO (p : S3) : keyL [.int p.1, .int p.2.1, .int p.2.2] = some (kS p) := rfl
/-- p, if it is new, at the end -/
def addN (D : List S3) (p : S3) : List S3 := if p ∈ D then D else D ++ [p]
def addA (D L : List S3) : List S3 := L.foldl addN D
def tru (n : Nat) : List O := List.replicate n (.bl true)
theorem mem_kS {D : List S3} {p : S3} : ((D.map kS).any fun k' => decide (k' = kS p)) = decide (p ∈ D) := by
  rw [List.any_map]
  by_cases h : p ∈ D
  · rw [decide_eq_true h, List.any_eq_true]
    exact ⟨p, h, by simp⟩
  · rw [decide_eq_false h, List.any_eq_false]
    intro q hq e
    exact h (kS_inj (of_decide_eq_true e) ▸ hq)
theorem dput_kS (D : List S3) (p : S3) : dput (D.map kS) (tru D.length) (kS p) (.bl true) = ((addN D p).map kS, tru (addN D p).length) := by
  unfold dput addN
  rw [mem_kS]
  by_cases h : p ∈ D
  · rw [if_pos (by rw [decide_eq_true h]), if_pos h]
    congr 1
    unfold tru
    rw [List.eq_replicate_iff]
    refine ⟨by rw [List.length_zipWith, List.length_map, List.length_replicate, Nat.min_self], fun b hb => ?_⟩
    obtain ⟨i, hi⟩ := List.getElem?_of_mem hb
    rw [List.getElem?_zipWith] at hi
    split at hi
    · rename_i x y hx hy
      have hy' := List.eq_of_mem_replicate (List.mem_of_getElem? hy)
      cases hi
      rw [hy']
      split <;> rfl
    · cases hi
  · rw [if_neg (by rw [decide_eq_false h]; exact Bool.false_ne_true), if_neg h, List.map_append, List.length_append]
    unfold tru
    rw [show D.length + [p].length = D.length + 1 from rfl, List.replicate_succ']
    rfl
theorem addN_len (D : List S3) (p : S3) : (addN D p).length ≤ D.length + 1 := by
  unfold addN
  split
  · omega
  · rw [List.length_append]; exact Nat.le_refl _
theorem addA_len : ∀ (L D : List S3), (addA D L).length ≤ D.length + L.length
  | [], D => Nat.le_refl _
  | p :: L, D => by
    have := addA_len L (addN D p)
    have h2 := addN_len D p
    show (addA (addN D p) L).length ≤ _
    rw [List.length_cons]
    omega
theorem addN_mem {D : List S3} {p q : S3} : q ∈ addN D p ↔ q ∈ D ∨ q = p := by
  unfold addN
  split
  · rename_i h
    exact ⟨Or.inl, fun e => e.elim id fun e => e ▸ h⟩
  · rw [List.mem_append, List.mem_singleton]
theorem addA_mem : ∀ (L : List S3) {D : List S3} {q : S3}, q ∈ addA D L ↔ q ∈ D ∨ q ∈ L
  | [], D, q => by show q ∈ D ↔ _; simp
  | p :: L, D, q => by
    show q ∈ addA (addN D p) L ↔ _
    rw [addA_mem L, addN_mem, List.mem_cons]
    constructor
    · rintro ((h | h) | h)
      · exact .inl h
      · exact .inr (.inl h)
      · exact .inr (.inr h)
    · rintro (h | h | h)
      · exact .inl (.inl h)
      · exact .inl (.inr h)
      · exact .inr h
/-- the first two numbers are not both nought -/
def Nz (s : S3) : Prop := s.1 ≠ 0 ∨ s.2.1 ≠ 0
/-- each with each later one -/
def prs : List S3 → List (S3 × S3)
  | [] => []
  | a :: r => r.map (fun b => (a, b)) ++ prs r
theorem mem_prs : ∀ {L : List S3} {p : S3 × S3}, p ∈ prs L → p.1 ∈ L ∧ p.2 ∈ L
  | [], _, h => nomatch h
  | a :: r, p, h => by
    rcases List.mem_append.mp h with h | h
    · obtain ⟨b, hb, rfl⟩ := List.mem_map.mp h
      exact ⟨List.mem_cons_self, List.mem_cons_of_mem _ hb⟩
    · exact ⟨List.mem_cons_of_mem _ (mem_prs h).1, List.mem_cons_of_mem _ (mem_prs h).2⟩
theorem prs_len : ∀ L : List S3, (prs L).length ≤ L.length * L.length
  | [] => Nat.le_refl _
  | a :: r => by
    show (r.map (fun b => (a, b)) ++ prs r).length ≤ _
    rw [List.length_append, List.length_map, List.length_cons]
    have := prs_len r
    have e : (r.length + 1) * (r.length + 1) = r.length * r.length + 2 * r.length + 1 := by grind
    omega
theorem listE_dT (o : Bool) (D : List S3) (vs : List O) : listE [.dT o (D.map kS) vs] = some (.lst true (D.map sO)) := by
  show some (O.lst true ((D.map kS).map keyT)) = _
  rw [List.map_map]; rfl
theorem sDput_ok {i : Nat} {k v : SE} {τ : Sl} {D : List S3} {p : S3} (hv : v τ = some (.bl true)) (hk : k τ = some (sO p)) (hx : τ[i]? = some (some (.dT true (D.map kS) (tru D.length)))) (hl : D.length < sLine) :
    sDput i k v τ = some (.nx (τ.set i (some (.dT true ((addN D p).map kS) (tru (addN D p).length))))) := by
  have ft : flats (tru D.length) = true := by
    rw [flats_eq, List.all_eq_true]
    intro x hx
    rw [List.eq_of_mem_replicate hx]; rfl
  have c : flat (O.bl true) = true ∧ flats (tru D.length) = true ∧ (D.map kS).length = (tru D.length).length ∧ (D.map kS).length < sLine :=
    ⟨rfl, ft, by rw [List.length_map]; exact List.length_replicate.symm, by rw [List.length_map]; exact hl⟩
  unfold sDput
  rw [hv, Option.bind_some, hk, Option.bind_some, hx]
  show (if _ then _ else _) = _
  rw [if_pos c, keyL_sO, Option.bind_some, dput_kS]
theorem tru_frzs (n : Nat) : frzs (tru n) = tru n := frzs_flat' fun x h => by rw [List.eq_of_mem_replicate h]; rfl
/-- whether a side holds a spot -/
def holdB (p s : S3) : Bool := decide (s.1 * p.1 + s.2.1 * p.2.1 ≤ s.2.2 * p.2.2)
theorem all_holdO (p : S3) (S : List S3) : (S.map sO).all (holdO p.1 p.2.1 p.2.2) = S.all (holdB p) := by rw [List.all_map]; rfl
end Dv
end
section
set_option Elab.async false
set_option linter.all false
set_option maxRecDepth 100000
/-! Mp: dicts of pairs -/
namespace Dv
abbrev S2 := Int × Int
def pO (p : S2) : O := .tup [.int p.1, .int p.2]
end Dv
end
section
set_option Elab.async false
set_option linter.all false
set_option maxRecDepth 100000
/-! Dr: the steps of Du. -/
namespace Dv
open PySem PySem.Spec L2
open PyProof.Rows hiding St
section
variable {K : PySem.W.Frag} {H : Hp} {B : Addr → Prop}
mutual
theorem Rp.flatF : ∀ {o : O} {v : V} {F : List Addr}, flat o = true → Rp K H B o v F → F = []
  | .non, _, _, _, h => h.2
  | .bl _, _, _, _, h => h.2
  | .int _, _, _, _, h => h.2
  | .str _, _, _, _, h => h.2
  | .anc _, _, _, _, h => h.2
  | .scr _, _, _, _, h => by obtain ⟨_, _, h, _⟩ := h; exact h
  | .kt _, _, _, _, h => by obtain ⟨_, _, h, _⟩ := h; exact h
  | .tup xs, _, _, c, h => by
    obtain ⟨_, _, _, _, h⟩ := h
    exact Rps.flatF c h
  | .lst _ _, _, _, c, _ => nomatch c
  | .dK _ _ _, _, _, c, _ => nomatch c
  | .dT _ _ _, _, _, c, _ => nomatch c
theorem Rps.flatF : ∀ {os : List O} {vs : List V} {F : List Addr}, flats os = true → Rps K H B os vs F → F = []
  | [], _, _, _, h => h.2
  | x :: xs, _, _, c, h => by
    have c' : (flat x && flats xs) = true := c
    rw [Bool.and_eq_true] at c'
    obtain ⟨v, vr, F1, F2, _, rfl, h3, h4⟩ := h
    rw [Rp.flatF c'.1 h3, Rps.flatF c'.2 h4]
    rfl
end
theorem Rp.fl {B' : Addr → Prop} {o : O} {v : V} {F : List Addr} (c : flat o = true) (h : Rp K H B o v F) : Rp K H B' o v [] := by
  have e := h.flatF c
  subst e
  exact h.clean (clean_of_flat c)
theorem Rps.fl {B' : Addr → Prop} {os : List O} {vs : List V} {F : List Addr} (c : flats os = true) (h : Rps K H B os vs F) : Rps K H B' os vs [] := by
  have e := h.flatF c
  subst e
  exact h.clean (cleans_of_flats c)
/-- where items are flat: item by item -/
theorem Rps.iff : ∀ {os : List O} {vs : List V}, Rps K H B os vs [] ↔ os.length = vs.length ∧ ∀ (i : Nat) (o : O) (v : V), os[i]? = some o → vs[i]? = some v → Rp K H B o v []
  | [], vs => by
    constructor
    · rintro ⟨rfl, _⟩
      exact ⟨rfl, fun i o v h _ => by simp at h⟩
    · rintro ⟨h, _⟩
      exact ⟨List.eq_nil_of_length_eq_zero h.symm, rfl⟩
  | o :: os, vs => by
    constructor
    · rintro ⟨v, vr, F1, F2, rfl, e, h3, h4⟩
      obtain ⟨rfl, rfl⟩ := List.append_eq_nil_iff.mp e.symm
      obtain ⟨l, q⟩ := Rps.iff.mp h4
      refine ⟨by rw [List.length_cons, List.length_cons, l], fun i o' v' h1 h2 => ?_⟩
      cases i with
      | zero => cases h1; cases h2; exact h3
      | succ i => exact q i o' v' h1 h2
    · rintro ⟨l, q⟩
      cases vs with
      | nil => cases l
      | cons v vr => exact ⟨v, vr, [], [], rfl, rfl, q 0 o v rfl rfl, Rps.iff.mpr ⟨Nat.succ.inj l, fun i o' v' h1 h2 => q (i + 1) o' v' h1 h2⟩⟩
end
/-! ### methods that change a list of flat items -/
section
variable {X : Cx} {K : PySem.W.Frag} {e : Expr} {es : List Expr} {ns : List Nat} {fs : SEs} {f g : SE} {pos : Pos}
/-! ### xs[a] = b -/
theorem sDput_some {i : Nat} {τ : Sl} {o y : O} {r : Fl} (q : (match y, τ[i]? with
    | .tup xs, some (some (.dT true ks vs)) => if flat o = true ∧ flats vs = true ∧ ks.length = vs.length ∧ ks.length < sLine then (keyL xs).bind fun kk => some (Fl.nx (τ.set i (some (.dT true (dput ks vs kk o).1 (dput ks vs kk o).2)))) else none
    | _, _ => none) = some r) : ∃ (ys : List O) (kk : List Key) (ks : List (List Key)) (vs : List O), y = .tup ys ∧ keyL ys = some kk ∧ τ[i]? = some (some (.dT true ks vs)) ∧ flat o = true ∧ flats vs = true ∧ ks.length = vs.length ∧ ks.length < sLine ∧ r = .nx (τ.set i (some (.dT true (dput ks vs kk o).1 (dput ks vs kk o).2))) := by
  split at q
  · rename_i ys ks vs hx
    split at q
    · rename_i c
      obtain ⟨kk, hkk, q⟩ := bind_some q
      cases q
      exact ⟨ys, kk, ks, vs, rfl, hkk, hx, c.1, c.2.1, c.2.2.1, c.2.2.2, rfl⟩
    · cases q
  · cases q
/-! ### dicts with tuples for keys -/
theorem de_dnew {pos : Pos} : DE X ns (.Dict [] [] pos) xDnew := by
  refine pe_dnewT.byD fun σ H Q q => ?_
  obtain ⟨H0, B0, τ, Fs, o, rs, ho, k⟩ := q
  cases ho
  exact fun p hp => k (.ref p) _ [p] (same_upd hp) ⟨p, [], [], rfl, upd_same, rfl, rfl, rfl, rfl⟩ (by simp) fun a z => by rw [List.mem_singleton.mp z]; exact hp
theorem key_items : ∀ {xs : List O} {ks : List Key} {vs : List V} {F : List Addr} {H : Hp} {B : Addr → Prop}, keyL xs = some ks → Rps K H B xs vs F → vs = ks.map kV
  | [], _, _, _, _, _, h, r => by cases h; exact r.1
  | x :: xs, _, _, _, _, _, h, r => by
    obtain ⟨k, hk, h⟩ := bind_some h
    obtain ⟨ks, hks, h⟩ := bind_some h
    cases h
    obtain ⟨v, vr, F1, F2, rfl, _, h3, h4⟩ := r
    rw [key_items hks h4]
    cases x with
    | int j => cases hk; rw [h3.1]; rfl
    | str j => cases hk; rw [h3.1]; rfl
    | _ => cases hk
theorem putK_keys {kvs : List (List Key × V)} {k : List Key} {v : V} : (kvs.any fun kv => decide (kv.1 = k)) = ((kvs.map (·.1)).any fun k' => decide (k' = k)) := by
  rw [List.any_map]; rfl
theorem putK_ok {ks : List (List Key)} {os : List O} {kvs : List (List Key × V)} {k : List Key} {o : O} {v : V} {H : Hp} {B : Addr → Prop} (hk : kvs.map (·.1) = ks) (hv : Rps K H B os (kvs.map (·.2)) []) (ho : Rp K H B o v []) :
    (putK kvs k v).map (·.1) = (dput ks os k o).1 ∧ Rps K H B (dput ks os k o).2 ((putK kvs k v).map (·.2)) [] := by
  have hl := (Rps.iff.mp hv).1
  rw [List.length_map] at hl
  have hkl : ks.length = kvs.length := by rw [← hk, List.length_map]
  unfold putK dput
  rw [putK_keys (v := v), hk]
  by_cases c : (ks.any fun k' => decide (k' = k)) = true
  · rw [if_pos c, if_pos c]
    refine ⟨?_, Rps.iff.mpr ⟨?_, fun i o' v' h1 h2 => ?_⟩⟩
    · rw [List.map_map, ← hk]
      apply List.map_congr_left
      intro kv _
      show (if kv.1 = k then (kv.1, v) else kv).1 = kv.1
      split <;> rfl
    · show (List.zipWith _ ks os).length = _
      rw [List.length_zipWith, List.length_map, List.length_map, hkl, hl, Nat.min_self]
    · have h1 : (List.zipWith (fun k' v => if k' = k then o else v) ks os)[i]? = some o' := h1
      rw [List.getElem?_zipWith] at h1
      rw [List.map_map, List.getElem?_map] at h2
      cases e : kvs[i]? with
      | none => rw [e] at h2; cases h2
      | some kv =>
        rw [e] at h2
        have ek : ks[i]? = some kv.1 := by rw [← hk, List.getElem?_map, e]; rfl
        rw [ek] at h1
        cases e2 : os[i]? with
        | none => rw [e2] at h1; cases h1
        | some u0 =>
          rw [e2] at h1
          have h1 : some (if kv.1 = k then o else u0) = some o' := h1
          have h2 : some (if kv.1 = k then (kv.1, v) else kv).2 = some v' := h2
          by_cases q : kv.1 = k
          · rw [if_pos q] at h1 h2
            cases h1; cases h2
            exact ho
          · rw [if_neg q] at h1 h2
            cases h1; cases h2
            exact (Rps.iff.mp hv).2 i o' kv.2 e2 (by rw [List.getElem?_map, e]; rfl)
  · rw [if_neg c, if_neg c]
    refine ⟨by rw [List.map_append, hk]; rfl, ?_⟩
    rw [List.map_append]
    exact hv.append (show Rps K H B [o] [v] [] from ⟨v, [], [], [], rfl, rfl, ho, rfl, rfl⟩)
theorem RS.dct {H0 H : Hp} {B0 : Addr → Prop} {σ : St} {τ : Sl} {Fs : List (List Addr)} {i : Nat} {ks : List (List Key)} {os : List O} (rs : RS K H0 B0 H σ τ Fs) (h : τ[i]? = some (some (.dT true ks os))) :
    ∃ p kvs G, σ[i]? = some (some (.ref p)) ∧ Fs[i]? = some (p :: G) ∧ H p = some (.dT kvs) ∧ kvs.map (·.1) = ks ∧ Rps K H (fun a => B0 a ∨ a ∈ Fs.flatten) os (kvs.map (·.2)) G := by
  obtain ⟨v, F, a, b, c⟩ := rs.slot i _ h
  obtain ⟨p, kvs, G, rfl, h2, rfl, h3, h4⟩ := c
  exact ⟨p, kvs, G, a, b, h2, h3, h4⟩
theorem ds_dput (i : Nat) {x : Str} {a b : Expr} {fa fb : SE} {na nb : List Nat} {p p2 : Pos} (hu : X.A.units + 1 < cLine) (hb : DE X nb b fb) (ha : DE X na a fa) (hi : X.N[i]? = some x := by rfl) (hv : Vis X.env.scope x := by first | exact Or.inl rfl | exact Or.inr (Or.inl rfl) | exact Or.inr (Or.inr rfl))
    (hd : (x == ("__debug__" : Str)) = false := by decide) (hcd : (x == ("__classdict__" : Str)) = false := by decide)
    (hs : swapsWith b (some (.Subscript (.Name x p) a p2)) pos.line X.env = pure false := by rfl) :
    DS X (.Assign [.Subscript (.Name x p) a p2] b pos) (sDput i fa fb) := by
  refine (ps_dput hu (pe_var hi hv hd hcd) ha hb hs).byD fun D σ H hh => ?_
  obtain ⟨H0, B0, τ, Fs, r, rs, hr, k⟩ := hh
  obtain ⟨o, ho, hr⟩ := bind_some hr
  obtain ⟨y, hy, hr⟩ := bind_some hr
  refine ⟨H0, B0, τ, Fs, o, rs, ho, fun v1 H1 F1 s1 r1 n1 f1 => ?_⟩
  obtain ⟨ys, kk, ks, vs, rfl, hkk, hx, fo, fv, hl, hz, rfl⟩ := sDput_some hr
  obtain ⟨q, kvs, G, q1, q2, q3, q4, q5⟩ := rs.dct hx
  have eG := q5.flatF fv
  subst eG
  have eF := r1.flatF fo
  subst eF
  refine ⟨.ref q, q1, H0, B0, τ, Fs, _, rs.go s1, hy, fun v2 H2 F2 s2 r2 n2 f2 => ?_⟩
  obtain ⟨t, us, rfl, ht, rt⟩ := r2
  have eu := key_items hkk rt
  subst eu
  have s12 : Same H H2 := s1.trans s2
  have mq : MutB (fun a => a = q) H2 := fun a z => by rw [z, s12 _ _ q3]; trivial
  refine ⟨q, _, rfl, DPut.t (s12 _ _ q3) ht ?_, ?_⟩
  · have : kvs.length = ks.length := by rw [← q4, List.length_map]
    rw [this]
    exact Nat.lt_of_lt_of_le hz (by rw [sizeLine_eq]; decide)
  · have c1 : Rps X.K (upd H2 q (.dT (putK kvs kk v1))) (Bor (fun a => B0 a ∨ a ∈ Fs.flatten) [q]) vs (kvs.map (·.2)) [] := ((((q5.same s12).fl (B' := fun a => a = q) fv).ext (C := fun a => a = q) (H' := upd H2 q (.dT (putK kvs kk v1))) (fun a o n e => by rw [upd_ne n]; exact e) mq (fun a z => z) (F := []) (fun a z => by cases z))).fl fv
    have c2 : Rp X.K (upd H2 q (.dT (putK kvs kk v1))) (Bor (fun a => B0 a ∨ a ∈ Fs.flatten) [q]) o v1 [] := ((((r1.same s2).fl (B' := fun a => a = q) fo).ext (C := fun a => a = q) (H' := upd H2 q (.dT (putK kvs kk v1))) (fun a o n e => by rw [upd_ne n]; exact e) mq (fun a z => z) (F := []) (fun a z => by cases z))).fl fo
    obtain ⟨z1, z2⟩ := putK_ok (k := kk) q4 c1 c2
    obtain ⟨rs2, st2⟩ := rs.upd (o2 := .dT true (dput ks vs kk o).1 (dput ks vs kk o).2) (u := .dT (putK kvs kk v1)) (F2 := [q]) q2 List.mem_cons_self q1 s12 ⟨q, _, [], rfl, upd_same, rfl, z1, z2⟩ (by simp) fun a z => .inl z
    exact k σ _ _ rs2 st2
end
/-! ### list(x), sorted(x) -/
section
variable {X : Cx} {K : PySem.W.Frag}
theorem keyV_rp {H : Hp} {B : Addr → Prop} : ∀ (k : List Key), Rps K H B (k.map keyV) (k.map kV) []
  | [] => ⟨rfl, rfl⟩
  | .inl i :: k => ⟨_, _, [], [], rfl, rfl, ⟨rfl, rfl⟩, keyV_rp k⟩
  | .inr x :: k => ⟨_, _, [], [], rfl, rfl, ⟨rfl, rfl⟩, keyV_rp k⟩
theorem keys_rp {H : Hp} {B : Addr → Prop} : ∀ {kvs : List (List Key × V)} {bs : List Addr}, IsKeys H kvs bs → Rps K H B ((kvs.map (·.1)).map keyT) (bs.map V.ref) []
  | _, _, .nil => ⟨rfl, rfl⟩
  | _, _, .cons (a := p) h t => ⟨_, _, [], [], rfl, rfl, ⟨_, _, rfl, h, keyV_rp p.1⟩, keys_rp t⟩
theorem o_listE : OpN K listE (fun xs H Q => (∃ p ys, xs = [.ref p] ∧ (SqL K H p ys ∨ SqT K H p ys) ∧ ∀ l, H l = none → Q (.ref l) (upd H l (.lst ys))) ∨ ∃ d kvs, xs = [V.ref d] ∧ Rd H d (.dT kvs) ∧ ∀ p bs, H p = none → IsKeys H kvs bs → Q (.ref p) (upd H p (.lst (bs.map V.ref)))) := by
  intro B H xs o vs F Q e r nd av k
  match xs, e with
  | [.tup xs], e => exact .inl (o_list B H [.tup xs] o vs F Q e r nd av k)
  | [.lst own xs], e => exact .inl (o_list B H [.lst own xs] o vs F Q e r nd av k)
  | [.dT own ks os], e =>
    cases e
    obtain ⟨v, rfl, r1⟩ := rps1 r
    have fin : ∃ d kvs, v = .ref d ∧ H d = some (.dT kvs) ∧ kvs.map (·.1) = ks := by
      cases own with
      | false =>
        obtain ⟨d, kvs, e, h, _, _, hk, _⟩ := r1
        exact ⟨d, kvs, e, h, hk⟩
      | true =>
        obtain ⟨d, kvs, _, e, h, _, hk, _⟩ := r1
        exact ⟨d, kvs, e, h, hk⟩
    obtain ⟨d, kvs, rfl, hd, rfl⟩ := fin
    refine .inr ⟨d, kvs, rfl, .inl hd, fun p bs hp hb => ?_⟩
    obtain ⟨n3, n4⟩ := new_lst (K := K) (B := B) (G := []) hp (keys_rp (B := Bor B []) hb) List.nodup_nil
    exact k (.ref p) _ [p] (same_upd hp) n3 n4 fun z q => .inr (by rw [List.mem_singleton.mp q]; exact hp)
theorem c_listE (hc : X.calm = true) : CallR X (.type "list") (fun xs H Q => (∃ p ys, xs = [.ref p] ∧ (SqL X.K H p ys ∨ SqT X.K H p ys) ∧ ∀ l, H l = none → Q (.ref l) (upd H l (.lst ys))) ∨ ∃ d kvs, xs = [V.ref d] ∧ Rd H d (.dT kvs) ∧ ∀ p bs, H p = none → IsKeys H kvs bs → Q (.ref p) (upd H p (.lst (bs.map V.ref)))) :=
  call_list_of.or (call_list_dT hc)
theorem u64 {n m : Nat} (h : n + 64 < m) : n + 64 < m := h
theorem u1 {n m : Nat} (h : n + 64 < m) : n + 1 < m := by omega
/-! sorted -/
theorem reads_ints {h : Heap} : ∀ {vs : List Value} {ns : List Int}, IntsAre vs ns → ReadsAll h vs (ns.map PyData.int) []
  | _, _, .nil => .nil
  | _, _, .cons n t r => .cons (as := []) (bs := []) (.int n t) (reads_ints r)
theorem asIs_rp {H : Hp} {B : Addr → Prop} : ∀ {xs : List O} {is : List Int} {vs : List V} {F : List Addr}, asIs xs = some is → Rps K H B xs vs F → vs = is.map V.int
  | [], _, _, _, h, r => by cases h; exact r.1
  | x :: xs, is, vs, F, h, r => by
    cases x with
    | int j =>
      obtain ⟨is', h1, h⟩ := bind_some (show (asIs xs).bind (fun is => some (j :: is)) = some is from h)
      cases h
      obtain ⟨v, vr, F1, F2, rfl, _, h3, h4⟩ := r
      rw [asIs_rp h1 h4, h3.1]
      rfl
    | _ => cases h
/-! is, is not; chains -/
variable {a b c : Expr} {na nb nc : List Nat} {fa fb fc : SE} {pos : Pos}
end
end Dv
end
section
set_option Elab.async false
set_option linter.all false
set_option maxRecDepth 100000
/-! Dw: still more constructs: least and greatest of a row, in, extend, a row turned about, a tuple handed out with all that it holds, a row within a tuple changed. -/
namespace Dv
open PySem (Str)
def leastI : List Int → Option Int
  | [] => none
  | i :: is => some (is.foldl min i)
def minS : List O → Option O
  | [.lst _ xs] => (asIs xs).bind fun is => (leastI is).bind fun m => some (.int m)
  | [.tup xs] => (asIs xs).bind fun is => (leastI is).bind fun m => some (.int m)
  | _ => none
def memO (x : O) (ys : List O) : Bool := ys.any fun y => eqo y x
def notInD (x y : O) : Option O := match y with
  | .lst o ys => if (shO 20 x && shO 20 (.lst o ys)) = true then some (.bl (!memO x ys)) else none
  | .tup ys => if (shO 20 x && shO 20 (.tup ys)) = true then some (.bl (!memO x ys)) else none
  | _ => none
/-- NAME.extend(e), all items flat -/
def sExt (i : Nat) (a : SE) : SS := fun τ => (a τ).bind fun x => match x, τ[i]? with
  | .lst _ ys, some (some (.lst true xs)) => if flats xs = true ∧ flats ys = true ∧ xs.length + ys.length ≤ sLine then some (.nx (τ.set i (some (.lst true (xs ++ ys))))) else none
  | _, _ => none
/-- NAME[k].append(e), e all its own -/
def appAt (k : Int) (o : O) : O → Option O
  | .lst true xs => (at? xs k).bind fun y => match y with
    | .lst true ys => if ys.length < sLine then some (.lst true (xs.set (if 0 ≤ k then k.toNat else (k + xs.length).toNat) (.lst true (ys ++ [o])))) else none
    | _ => none
  | .tup xs => (at? xs k).bind fun y => match y with
    | .lst true ys => if ys.length < sLine then some (.tup (xs.set (if 0 ≤ k then k.toNat else (k + xs.length).toNat) (.lst true (ys ++ [o])))) else none
    | _ => none
  | _ => none
def sAppAt (i : Nat) (k : SE) (a : SE) : SS := fun τ => (k τ).bind fun z => (a τ).bind fun o => match z, τ[i]? with
  | .int k, some (some x) => if clean o = true then (appAt k o x).bind fun x' => some (.nx (τ.set i (some x'))) else none
  | _, _ => none
end Dv
end
section
set_option Elab.async false
set_option linter.all false
set_option maxRecDepth 100000
/-! Dx: the steps of Dw. -/
namespace Dv
open PySem PySem.Spec L2
open PyProof.Rows hiding St
section
variable {X : Cx} {K : PySem.W.Frag} {a b c e : Expr} {es : List Expr} {na nb nc ns ms : List Nat} {fa fb fc f g : SE} {fs gs : SEs} {pos : Pos}
/-! ### least, greatest, sum -/
def rMinT (K : PySem.W.Frag) : List V → Hp → VK → Prop := fun vs H Q => ∃ (a : Addr) (i : Int) (is : List Int), vs = [V.ref a] ∧ SqT K H a ((i :: is).map V.int) ∧ Q (.int (is.foldl min i)) H
theorem ints_alike (ns : List Int) : PySem.W.AlikeAll (ns.map PyData.int) := ⟨fun x hx y hy => by
  obtain ⟨i, _, rfl⟩ := List.mem_map.mp hx
  obtain ⟨j, _, rfl⟩ := List.mem_map.mp hy
  rfl, fun x hx => by
  obtain ⟨i, _, rfl⟩ := List.mem_map.mp hx
  exact fun z => nomatch z⟩
theorem reads_int {h : Heap} {v : Value} {i : Int} {bs : List Addr} (r : Reads h v (.int i) bs) : ∃ t, v = .int i t := by
  cases r
  exact ⟨_, rfl⟩
theorem cr_minT (hc : X.calm = true) (hu : X.A.units + 64 < cLine) : CallR X (.builtin "min") (rMinT X.K) := by
  intro pins s σ H vs us Q I r h
  obtain ⟨a, i, is, rfl, hs, q⟩ := h
  obtain ⟨its, rv, hl, _⟩ := I.tuple hs
  rw [Vals.ref1 r]
  have hr : ReadsAll s.heap its.toArray.toList ((i :: is).map PyData.int) [] := reads_ints rv.ints
  refine PySem.W.min_tuple_data (I.ok.hd hc) hl (x := .int i) (xs := is.map PyData.int) hr (ints_alike (i :: is)) (by
    have := (kt_lay (i :: is)).2
    rw [List.map_cons] at this
    omega) fun j v h' tk bs _ hv hk => ?_
  rw [PySem.W.minD_ints] at hv
  obtain ⟨t, rfl⟩ := reads_int hv
  exact ⟨.int _, H, I.kept hk, ⟨_, rfl⟩, q⟩
theorem foldl_min_mem : ∀ (is : List Int) (i : Int), is.foldl min i ∈ i :: is
  | [], i => List.mem_cons_self
  | j :: is, i => by
    have h := foldl_min_mem is (min i j)
    rw [List.foldl_cons]
    rcases List.mem_cons.mp h with h | h
    · rw [h]
      by_cases c : i ≤ j
      · rw [show min i j = i by omega]; exact List.mem_cons_self
      · rw [show min i j = j by omega]; exact List.mem_cons_of_mem _ List.mem_cons_self
    · exact List.mem_cons_of_mem _ (List.mem_cons_of_mem _ h)
theorem foldl_min_le : ∀ (is : List Int) (i : Int), (is.foldl min i ≤ i) ∧ ∀ j ∈ is, is.foldl min i ≤ j
  | [], i => ⟨Int.le_refl _, fun _ h => nomatch h⟩
  | j :: is, i => by
    obtain ⟨h1, h2⟩ := foldl_min_le is (min i j)
    rw [List.foldl_cons]
    refine ⟨by omega, fun k hk => ?_⟩
    rcases List.mem_cons.mp hk with rfl | hk
    · omega
    · exact h2 k hk
def rMinS (K : PySem.W.Frag) : List V → Hp → VK → Prop := fun vs H Q => rMin K vs H Q ∨ rMinT K vs H Q
theorem c_minS (hc : X.calm = true) (hu : X.A.units + 64 < cLine) : CallR X (.builtin "min") (rMinS X.K) := (cr_min hc).or (cr_minT hc hu)
theorem o_minS : OpN K minS (rMinS K) := by
  intro B H xs o vs F Q e r nd av k
  match xs, e with
  | [.lst own xs], e =>
    obtain ⟨is, h1, e⟩ := bind_some (show ((asIs xs).bind fun is => (leastI is).bind fun m => some (O.int m)) = some o from e)
    obtain ⟨m, h2, e⟩ := bind_some e
    cases e
    obtain ⟨v, rfl, r1⟩ := rps1 r
    obtain ⟨a, ws, G, rfl, h3, q, _⟩ := r1.lst_at
    have h4 := asIs_rp h1 q
    subst h4
    cases is with
    | nil => cases h2
    | cons i is =>
      cases h2
      refine .inl ⟨a, i :: is, rfl, SqL.of h3, by simp, fun m hm hle => ?_⟩
      have e1 : m = is.foldl min i := by
        have a1 := hle _ (foldl_min_mem is i)
        obtain ⟨b1, b2⟩ := foldl_min_le is i
        rcases List.mem_cons.mp hm with rfl | hm
        · omega
        · have := b2 m hm; omega
      rw [e1]
      exact done0 k ⟨rfl, rfl⟩
  | [.tup xs], e =>
    obtain ⟨is, h1, e⟩ := bind_some (show ((asIs xs).bind fun is => (leastI is).bind fun m => some (O.int m)) = some o from e)
    obtain ⟨m, h2, e⟩ := bind_some e
    cases e
    obtain ⟨v, rfl, r1⟩ := rps1 r
    obtain ⟨a, ws, rfl, h3, q⟩ := r1
    have h4 := asIs_rp h1 q
    subst h4
    cases is with
    | nil => cases h2
    | cons i is =>
      cases h2
      exact .inr ⟨a, i, is, rfl, SqT.of h3, done0 k ⟨rfl, rfl⟩⟩
/-! ### in -/
def rInT (K : PySem.W.Frag) (neg : Bool) : R2 := fun x y H Q => ∃ d ds, Dp K H x d ∧ Dp K H y (.tuple ds) ∧ SeqAt.shaped d = true ∧ SeqAt.shaped (.tuple ds) = true ∧ Q (.bl (if neg then !ds.any fun z => PyData.eqv z d else ds.any fun z => PyData.eqv z d)) H
theorem op_notInT (hu : X.A.units + 65 < cLine) : OpR X (compareOp .NotIn) (rInT X.K true) := by
  intro pins s σ H x y v u Q I rx ry h
  obtain ⟨d, ds, hd, he, sd, se, q⟩ := h
  obtain ⟨as, r1⟩ := Dp.reads I d x v hd rx
  obtain ⟨bs, r2⟩ := Dp.reads I (.tuple ds) y u he ry
  exact SeqAt.notIn_tuple_reads r2 r1 (SeqAt.canLay_of_shaped se) (SeqAt.canLay_of_shaped sd) (room_in_shaped sd hu) ⟨.bl _, H, I, rfl, q⟩
def rNot2 (K : PySem.W.Frag) : R2 := fun x y H Q => rNotInD K x y H Q ∨ rInT K true x y H Q
theorem r_notIn (hu : X.A.units + 65 < cLine) : OpR X (compareOp .NotIn) (rNot2 X.K) := (op_notInD hu).or (op_notInT hu)
theorem any_py {n : Nat} {x : O} (hx : shO n x = true) : ∀ {m : Nat} {ys : List O}, ys.all (shO m) = true → ((toPys ys).any fun z => PyData.eqv z (toPy x)) = memO x ys
  | _, [], _ => rfl
  | m, y :: ys, h => by
    rw [List.all_cons, Bool.and_eq_true] at h
    show (PyData.eqv (toPy y) (toPy x) || (toPys ys).any fun z => PyData.eqv z (toPy x)) = (eqo y x || ys.any fun y => eqo y x)
    rw [eqo_py y x h.1 hx, any_py hx h.2]
    rfl
theorem notInD_some {x y o : O} (h : notInD x y = some o) : shO 20 x = true ∧ shO 20 y = true ∧ ∃ ys, ((∃ w, y = .lst w ys) ∨ y = .tup ys) ∧ o = .bl (!memO x ys) := by
  unfold notInD at h
  split at h
  · split at h
    · rename_i w ys c
      cases h
      rw [Bool.and_eq_true] at c
      exact ⟨c.1, c.2, ys, .inl ⟨w, rfl⟩, rfl⟩
    · cases h
  · split at h
    · rename_i ys c
      cases h
      rw [Bool.and_eq_true] at c
      exact ⟨c.1, c.2, ys, .inr rfl, rfl⟩
    · cases h
  · cases h
theorem o_notIn : Op2 K notInD (rNot2 K) := by
  intro B H x y o v1 v2 F1 F2 Q e r1 r2 nd av k
  obtain ⟨sx, sy, ys, hy, rfl⟩ := notInD_some e
  have ha : ys.all (shO 19) = true := by rcases hy with ⟨w, rfl⟩ | rfl <;> exact sy
  have q : Q (.bl (!(toPys ys).any fun z => PyData.eqv z (toPy x))) H := by rw [any_py sx ha]; exact done0 k ⟨rfl, rfl⟩
  rcases hy with ⟨w, rfl⟩ | rfl
  · exact .inl ⟨_, _, r1.dp sx, r2.dp sy, shaped_of sx, shaped_of sy, q⟩
  · exact .inr ⟨_, _, r1.dp sx, r2.dp sy, shaped_of sx, shaped_of sy, q⟩
/-! ### a tuple of the written part, by its name -/
theorem u65 {k : Nat} {A : Around} (r : Room k A) : A.units + 65 < cLine := by have := r.un; omega
/-! ### e[::-1] -/
/-! ### NAME.extend(e) -/
theorem sExt_some {i : Nat} {τ : Sl} {x : O} {r : Fl} (q : (match x, τ[i]? with
  | .lst _ ys, some (some (O.lst true xs)) => if flats xs = true ∧ flats ys = true ∧ xs.length + ys.length ≤ sLine then some (Fl.nx (τ.set i (some (.lst true (xs ++ ys))))) else none
  | _, _ => none) = some r) : ∃ w xs ys, x = .lst w ys ∧ τ[i]? = some (some (.lst true xs)) ∧ flats xs = true ∧ flats ys = true ∧ xs.length + ys.length ≤ sLine ∧ r = .nx (τ.set i (some (.lst true (xs ++ ys)))) := by
  split at q
  · rename_i w ys xs hx
    split at q
    · rename_i c
      cases q
      exact ⟨w, _, _, rfl, hx, c.1, c.2.1, c.2.2, rfl⟩
    · cases q
  · cases q
theorem ds_ext (i : Nat) {x : Str} {p pa pp : Pos} (he : DE X ns e f) (hi : X.N[i]? = some x := by rfl) (hv : Vis X.env.scope x := by first | exact Or.inl rfl | exact Or.inr (Or.inl rfl) | exact Or.inr (Or.inr rfl))
    (hd : (x == ("__debug__" : Str)) = false := by decide) (hcd : (x == ("__classdict__" : Str)) = false := by decide)
    (hbase : attributeBase (.Name x p) "extend" X.env (eval (.Name x p) X.env) = eval (.Name x p) X.env := by rfl)
    (hfew : ((backTo pp (starEach [e] X.env)).all (fun x => !x.1) && (backToKw pp (keywordEach [] X.env)).all (fun x => x.1.isSome)
      && decide ([e].length + ([] : List Keyword).length + (if ([] : List Keyword).isEmpty then 0 else 1) < 30)) = true := by rfl)
    (hline : (pa.endLine == pp.line) = true := by rfl) (hs : starEach [e] X.env = (false, eval e X.env) :: starEach [] X.env := by rfl) (hpl : (backTo pp (starEach [] X.env)).any (·.1) = false := by rfl)
    (hsw : swapsWith (.Call (.Attribute (.Name x p) "extend" pa) [e] [] pp) none pos.line X.env = pure false := by rfl) :
    DS X (.Expr (.Call (.Attribute (.Name x p) "extend" pa) [e] [] pp) pos) (sExt i f) := by
  refine (ps_expr (pe_bm PySem.F.plainAttrs_list PySem.F.slot_list_extend PySem.F.type_list_extend mt_extend (pe_var hi hv hd hcd) (pa_cons he pa_nil hs) hbase hfew hline hs hpl) hsw).byD fun D σ H hh => ?_
  obtain ⟨H0, B0, τ, Fs, r, rs, hr, k⟩ := hh
  obtain ⟨y, hy, hr⟩ := bind_some hr
  obtain ⟨w, xs, ys, rfl, hx, fx, fy, hl, rfl⟩ := sExt_some hr
  obtain ⟨q, vs, G, q1, q2, q3, q4, _⟩ := rs.lst hx
  have eG := q4.flatF fx
  subst eG
  refine ⟨.ref q, q1, .inl ⟨rfl, vs, SqL.of q3⟩, H0, B0, τ, Fs, _, rs, hy, fun v1 H1 F1 s1 r1 n1 f1 => ?_⟩
  obtain ⟨b, ws, G1, rfl, h1, r2, _, _⟩ := r1.lst_at
  have r3 : Rps X.K H1 (Bor (fun a => B0 a ∨ a ∈ Fs.flatten) []) (xs ++ ys) (vs ++ ws) [] := ((q4.same s1).fl fx).append (r2.fl fy)
  obtain ⟨rs2, st2⟩ := rs.lupd (xs := xs) q2 q1 s1 r3 (by simp) fun a z => nomatch z
  exact ⟨q, b, vs, ws, rfl, rfl, s1 _ _ q3, h1, by rw [← q4.len, ← r2.len]; exact hl, k σ _ _ rs2 st2⟩
/-! ### return (e, ..) with all that the names hold -/
/-! ### NAME[k].append(e) -/
/-- p, held within F, is written: what else is within stands -/
theorem Rp.other {B : Addr → Prop} {H : Hp} {o : O} {v : V} {F : List Addr} {p : Addr} {u : HO} (h : Rp K H B o v F) (bp : B p) (mp : Mut (H p)) (np : p ∉ F) : Rp K (L2.upd H p u) B o v F :=
  Rp.ext (C := fun a => a = p) (fun a o n e => by rw [upd_ne n]; exact e) (fun a z => by rw [z]; exact mp) (fun a z => by rw [z]; exact bp) (fun a z o q => by rw [upd_ne (fun (w : a = p) => np (w ▸ z))]; exact q) h
theorem Rps.other {B : Addr → Prop} {H : Hp} {o : List O} {v : List V} {F : List Addr} {p : Addr} {u : HO} (h : Rps K H B o v F) (bp : B p) (mp : Mut (H p)) (np : p ∉ F) : Rps K (L2.upd H p u) B o v F :=
  Rps.ext (C := fun a => a = p) (fun a o n e => by rw [upd_ne n]; exact e) (fun a z => by rw [z]; exact mp) (fun a z => by rw [z]; exact bp) (fun a z o q => by rw [upd_ne (fun (w : a = p) => np (w ▸ z))]; exact q) h
theorem perm_a {A B C : List Addr} {p : Addr} : ((p :: (A ++ C)) ++ B).Perm ((p :: A ++ B) ++ C) := by
  refine List.Perm.cons p ?_
  show (A ++ C ++ B).Perm (A ++ B ++ C)
  rw [List.append_assoc, List.append_assoc]
  exact List.Perm.append_left A List.perm_append_comm
/-- item j is the own list ys at p; o is put behind it -/
theorem Rps.app {B : Addr → Prop} {H : Hp} {ys : List O} {o : O} : ∀ {os : List O} {vs : List V} {F : List Addr} {j : Nat}, Rps K H B os vs F → os[j]? = some (.lst true ys) → (∀ a ∈ F, B a) → F.Nodup →
    ∃ p ws, vs[j]? = some (.ref p) ∧ H p = some (.lst ws) ∧ ws.length = ys.length ∧ p ∈ F ∧ ∀ (H' : Hp) (u : V) (F3 : List Addr) (B' : Addr → Prop), Same H H' → (∀ a, B a → B' a) → (∀ a, H a ≠ none → B' a → B a) → p ∉ F3 → Rp K H' B' o u F3 → ∃ F', F'.Perm (F ++ F3) ∧ Rps K (L2.upd H' p (.lst (ws ++ [u]))) B' (os.set j (.lst true (ys ++ [o]))) vs F'
  | [], _, _, _, h, e, _, _ => by simp at e
  | x :: os, vs, F, 0, h, e, b, n => by
    obtain ⟨v, vr, F1, F2, rfl, rfl, h3, h4⟩ := h
    have e : x = .lst true ys := Option.some.inj e
    subst e
    obtain ⟨p, ws, G, rfl, h5, rfl, h7⟩ := h3
    rw [List.nodup_append] at n
    have pB : B p := b p (List.mem_append_left _ List.mem_cons_self)
    have np : p ∉ F2 := fun z => n.2.2 p List.mem_cons_self p z rfl
    have ng : p ∉ G := (List.nodup_cons.mp n.1).1
    refine ⟨p, ws, rfl, h5, h7.len.symm, List.mem_append_left _ List.mem_cons_self, fun H' u F3 B' s i1 i2 n3 ru => ?_⟩
    have mp : Mut (H' p) := by rw [s _ _ h5]; trivial
    have av : ∀ a, H a ≠ none → ¬ B a → ¬ B' a := fun a z1 z2 z3 => z2 (i2 a z1 z3)
    have r2 := (((h7.avoid av).same s).other (u := .lst (ws ++ [u])) (i1 p pB) mp ng).append (show Rps K (L2.upd H' p (.lst (ws ++ [u]))) B' [o] [u] F3 from ⟨u, [], F3, [], rfl, (List.append_nil F3).symm, ru.other (i1 p pB) mp n3, rfl, rfl⟩)
    exact ⟨(p :: (G ++ F3)) ++ F2, perm_a, .ref p, vr, p :: (G ++ F3), F2, rfl, rfl, ⟨p, _, G ++ F3, rfl, upd_same, rfl, r2⟩, ((h4.avoid av).same s).other (i1 p pB) mp np⟩
  | x :: os, vs, F, j + 1, h, e, b, n => by
    obtain ⟨v, vr, F1, F2, rfl, rfl, h3, h4⟩ := h
    rw [List.nodup_append] at n
    obtain ⟨p, ws, q1, q2, q3, q4, q5⟩ := Rps.app (o := o) h4 (j := j) e (fun a z => b a (List.mem_append_right _ z)) n.2.1
    have pB : B p := b p (List.mem_append_right _ q4)
    have np : p ∉ F1 := fun z => n.2.2 p z p q4 rfl
    refine ⟨p, ws, q1, q2, q3, List.mem_append_right _ q4, fun H' u F3 B' s i1 i2 n3 ru => ?_⟩
    obtain ⟨F', w1, w2⟩ := q5 H' u F3 B' s i1 i2 n3 ru
    have av : ∀ a, H a ≠ none → ¬ B a → ¬ B' a := fun a z1 z2 z3 => z2 (i2 a z1 z3)
    exact ⟨F1 ++ F', by rw [List.append_assoc]; exact List.Perm.append_left F1 w1, v, vr, F1, F', rfl, rfl, ((h3.avoid av).same s).other (i1 p pB) (by rw [s _ _ q2]; trivial) np, w2⟩
theorem at_ix' {α : Type} {xs : List α} {i : Int} {o : α} (h : at? xs i = some o) : ixN xs.length i = some (if 0 ≤ i then i.toNat else (i + xs.length).toNat) ∧ xs[if 0 ≤ i then i.toNat else (i + xs.length).toNat]? = some o := by
  unfold at? at h
  unfold ixN
  by_cases h0 : 0 ≤ i
  · rw [if_pos h0] at h
    obtain ⟨h1, _⟩ := List.getElem?_eq_some_iff.mp h
    rw [if_pos h0, if_pos h0, if_pos (by omega)]
    exact ⟨rfl, h⟩
  · rw [if_neg h0] at h
    by_cases h1 : -(xs.length : Int) ≤ i
    · rw [if_pos h1] at h
      rw [if_neg h0, if_neg h0, if_pos h1]
      exact ⟨rfl, h⟩
    · rw [if_neg h1] at h; cases h
/-- what NAME[k].append(e) does to what the name holds -/
theorem appAt_ok {B : Addr → Prop} {H : Hp} {x x' o : O} {v : V} {F : List Addr} {k : Int} (h : Rp K H B x v F) (hB : ∀ a ∈ F, B a) (n : F.Nodup) (e : appAt k o x = some x') :
    ∃ a vs p ws, v = .ref a ∧ (H a = some (.lst vs) ∨ H a = some (.tup vs)) ∧ atI vs k = some (.ref p) ∧ H p = some (.lst ws) ∧ ws.length < sLine ∧ p ∈ F ∧ ∀ (H' : Hp) (u : V) (F3 : List Addr) (B' : Addr → Prop), Same H H' → (∀ a, B a → B' a) → (∀ a, H a ≠ none → B' a → B a) → p ∉ F3 → Rp K H' B' o u F3 → ∃ F', F'.Perm (F ++ F3) ∧ Rp K (L2.upd H' p (.lst (ws ++ [u]))) B' x' v F' := by
  unfold appAt at e
  split at e
  · rename_i xs
    obtain ⟨y, hy, e⟩ := bind_some e
    split at e
    · rename_i ys
      split at e
      · rename_i hl
        cases e
        obtain ⟨a, vs, G, rfl, h2, rfl, h4⟩ := h
        obtain ⟨i1, i2⟩ := at_ix' hy
        have n' := List.nodup_cons.mp n
        obtain ⟨p, ws, q1, q2, q3, q4, q5⟩ := Rps.app (o := o) h4 i2 (fun b z => hB b (List.mem_cons_of_mem _ z)) n'.2
        refine ⟨a, vs, p, ws, rfl, .inl h2, ?_, q2, by rw [q3]; exact hl, List.mem_cons_of_mem _ q4, fun H' u F3 B' s j1 j2 n3 ru => ?_⟩
        · unfold atI
          rw [← h4.len, i1]
          exact q1
        · obtain ⟨F', w1, w2⟩ := q5 H' u F3 B' s j1 j2 n3 ru
          refine ⟨a :: F', w1.cons a, a, vs, F', rfl, ?_, rfl, w2⟩
          rw [upd_ne (fun (z : a = p) => n'.1 (z ▸ q4))]
          exact s _ _ h2
      · cases e
    · cases e
  · rename_i xs
    obtain ⟨y, hy, e⟩ := bind_some e
    split at e
    · rename_i ys
      split at e
      · rename_i hl
        cases e
        obtain ⟨a, vs, rfl, h2, h4⟩ := h
        obtain ⟨i1, i2⟩ := at_ix' hy
        obtain ⟨p, ws, q1, q2, q3, q4, q5⟩ := Rps.app (o := o) h4 i2 hB n
        refine ⟨a, vs, p, ws, rfl, .inr h2, ?_, q2, by rw [q3]; exact hl, q4, fun H' u F3 B' s j1 j2 n3 ru => ?_⟩
        · unfold atI
          rw [← h4.len, i1]
          exact q1
        · obtain ⟨F', w1, w2⟩ := q5 H' u F3 B' s j1 j2 n3 ru
          refine ⟨F', w1, a, vs, rfl, ?_, w2⟩
          rw [upd_ne (fun (z : a = p) => by rw [z, q2] at h2; cases h2)]
          exact s _ _ h2
      · cases e
    · cases e
  · cases e
theorem sAppAt_some {i : Nat} {τ : Sl} {z o : O} {r : Fl} (q : (match z, τ[i]? with
  | .int k, some (some x) => if clean o = true then (appAt k o x).bind fun x' => some (Fl.nx (τ.set i (some x'))) else none
  | _, _ => none) = some r) : ∃ k x x', z = .int k ∧ τ[i]? = some (some x) ∧ clean o = true ∧ appAt k o x = some x' ∧ r = .nx (τ.set i (some x')) := by
  split at q
  · rename_i k x hx
    split at q
    · rename_i c
      obtain ⟨x', h1, q⟩ := bind_some q
      cases q
      exact ⟨k, x, x', rfl, hx, c, h1, rfl⟩
    · cases q
  · cases q
theorem ds_appAt (i : Nat) {x : Str} {p pa pp p9 : Pos} (hb : DE X nb b fb) (he : DE X ns e f) (hpl' : PlainIx b) (hi : X.N[i]? = some x := by rfl) (hv : Vis X.env.scope x := by first | exact Or.inl rfl | exact Or.inr (Or.inl rfl) | exact Or.inr (Or.inr rfl))
    (hd : (x == ("__debug__" : Str)) = false := by decide) (hcd : (x == ("__classdict__" : Str)) = false := by decide)
    (hbase : attributeBase (.Subscript (.Name x p) b p9) "append" X.env (eval (.Subscript (.Name x p) b p9) X.env) = eval (.Subscript (.Name x p) b p9) X.env := by rfl)
    (hfew : ((backTo pp (starEach [e] X.env)).all (fun x => !x.1) && (backToKw pp (keywordEach [] X.env)).all (fun x => x.1.isSome)
      && decide ([e].length + ([] : List Keyword).length + (if ([] : List Keyword).isEmpty then 0 else 1) < 30)) = true := by rfl)
    (hline : (pa.endLine == pp.line) = true := by rfl) (hs : starEach [e] X.env = (false, eval e X.env) :: starEach [] X.env := by rfl) (hpl : (backTo pp (starEach [] X.env)).any (·.1) = false := by rfl)
    (hsw : swapsWith (.Call (.Attribute (.Subscript (.Name x p) b p9) "append" pa) [e] [] pp) none pos.line X.env = pure false := by rfl) :
    DS X (.Expr (.Call (.Attribute (.Subscript (.Name x p) b p9) "append" pa) [e] [] pp) pos) (sAppAt i fb f) := by
  refine (ps_expr (pe_bm PySem.F.plainAttrs_list PySem.F.slot_list_append PySem.F.type_list_append mt_append (pe_ix ix_D (pe_var hi hv hd hcd) hb hpl') (pa_cons he pa_nil hs) hbase hfew hline hs hpl) hsw).byD fun D σ H hh => ?_
  obtain ⟨H0, B0, τ, Fs, r, rs, hr, k⟩ := hh
  obtain ⟨z, hz, hr⟩ := bind_some hr
  obtain ⟨o, ho, hr⟩ := bind_some hr
  obtain ⟨kk, y, y', rfl, hx, fo, hy, rfl⟩ := sAppAt_some hr
  obtain ⟨v, F, e1, e2, r1⟩ := rs.slot i y hx
  refine ⟨v, e1, H0, B0, τ, Fs, _, rs, hz, fun v2 H1 F2 s1 r2 n2 f2 => ?_⟩
  obtain ⟨rfl, _⟩ := r2
  have nF := nodup_part rs.nodup e2
  obtain ⟨a, vs, q, ws, rfl, h2, h3, h4, h5, h6, h7⟩ := appAt_ok (r1.same s1) (fun a z => .inr (mem_flat e2 z)) nF hy
  have last : tE X.K ns f σ H1 fun y1 H2 => rAppend (.ref q) [y1] H2 fun _ H3 => D.nx σ H3 := by
    refine ⟨H0, B0, τ, Fs, o, rs.go s1, ho, fun v1 H2 F3 s2 r3 n3 f3 => ?_⟩
    have q3 : q ∉ F3 := fun z => by rw [f3 q z] at h4; cases h4
    have pm := h7 H2 v1 F3 (fun a => (B0 a ∨ a ∈ Fs.flatten) ∨ a ∈ F3) s2 (fun a z => .inl z) (fun a z w => w.elim id fun w => absurd (f3 a w) z) q3 (r3.clean fo)
    obtain ⟨F', w1, w2⟩ := pm
    have mF : ∀ a ∈ F', a ∈ F ∨ a ∈ F3 := fun a z => List.mem_append.mp (w1.mem_iff.mp z)
    obtain ⟨rs2, st2⟩ := rs.upd e2 h6 e1 (s1.trans s2) (w2.mono fun a z => z.elim .inl fun z => (mF a z).elim (fun z => .inl (.inr (mem_flat e2 z))) .inr) (w1.nodup_iff.mpr (List.nodup_append.mpr ⟨nF, n3, fun a z b z' w => by
      subst w
      exact mut_some ((rs.go s1).mutF (mem_flat e2 z)) (f3 a z')⟩)) fun a z => (mF a z).imp id fun z => s1.free (f3 a z)
    exact ⟨q, ws, v1, rfl, rfl, s2 _ _ h4, h5, k σ _ _ rs2 st2⟩
  rcases h2 with h2 | h2
  · exact .inl ⟨a, vs, kk, .ref q, rfl, rfl, SqL.of h2, h3, .inl ⟨rfl, ws, SqL.of h4⟩, last⟩
  · exact .inr ⟨a, vs, kk, .ref q, rfl, rfl, SqT.of h2, h3, .inl ⟨rfl, ws, SqL.of h4⟩, last⟩
end
end Dv
end
section
set_option Elab.async false
set_option linter.all false
set_option maxRecDepth 100000
/-! Dy: a loop over a list that its name holds alone: the name has it back after the loop. -/
namespace Dv
open PySem PySem.Spec L2
open PyProof.Rows hiding St
end Dv
end
section
set_option Elab.async false
set_option linter.all false
set_option maxRecDepth 100000
/-! Dz: a list taken apart into names; slices with a step; sorted of numbers, of rows of numbers. -/
namespace Dv
open PySem PySem.Spec L2
open PyProof.Rows hiding St
/-! ### sorted of numbers, of rows of numbers -/
/-- a list's numbers -/
def asL : O → Option (List Int)
  | .lst _ xs => asIs xs
  | _ => none
def asLs : List O → Option (List (List Int))
  | [] => some []
  | x :: xs => (asL x).bind fun t => (asLs xs).bind fun ts => some (t :: ts)
def lstI (ns : List Int) : O := .lst false (ns.map O.int)
def RL (H : Hp) (u : Value) (ns : List Int) : Prop := ∃ t, u = Value.ref t ∧ H t = some (.lst (ns.map V.int))
def LstsI (H : Hp) : List V → List (List Int) → Prop := PySem.W.EachIs fun x ns => ∃ t, x = V.ref t ∧ H t = some (.lst (ns.map V.int))
def rSortL (K : PySem.W.Frag) : List V → Hp → VK → Prop := fun vs H Q => ∃ (a : Addr) (xs : List V) (bs : List (List Int)), vs = [V.ref a] ∧ SqL K H a xs ∧ LstsI H xs bs ∧
  ∀ (ys : List V) (p : Addr), LstsI H ys (bs.mergeSort leI) → (∀ y ∈ ys, y ∈ xs) → H p = none → Q (.ref p) (upd H p (.lst ys))
abbrev encL (ns : List Int) : PyData := PyData.list (ns.map .int)
theorem le_lst : PySem.W.dataLe false (fun ns : List Int => PyData.list (ns.map .int)) = leI := PySem.W.dataLe_rows id
theorem each_RL {H : Hp} : ∀ {xs : List V} {its : List Value} {bs : List (List Int)}, LstsI H xs bs → Vals xs its → PySem.W.EachIs (fun u ns => RL H u ns ∧ bkV u ∈ xs) its bs := by
  intro xs its bs h
  have key : ∀ {ys : List V} {its : List Value} {bs : List (List Int)}, (∀ y ∈ ys, y ∈ xs) → LstsI H ys bs → Vals ys its → PySem.W.EachIs (fun u ns => RL H u ns ∧ bkV u ∈ xs) its bs := by
    intro ys its bs sub h rv
    induction h generalizing its with
    | nil => cases rv; exact .nil
    | cons h t ih =>
      cases rv with
      | cons r rr =>
        obtain ⟨t', rfl, ht⟩ := h
        cases r
        exact .cons ⟨⟨t', rfl, ht⟩, sub _ List.mem_cons_self⟩ (ih (fun y hy => sub y (List.mem_cons_of_mem _ hy)) rr)
  exact key (fun _ h => h) h
theorem back_RL {H : Hp} {xs : List V} : ∀ {its : List Value} {bs : List (List Int)}, PySem.W.EachIs (fun u ns => RL H u ns ∧ bkV u ∈ xs) its bs → LstsI H (its.map bkV) bs ∧ Vals (its.map bkV) its ∧ ∀ y ∈ its.map bkV, y ∈ xs
  | _, _, .nil => ⟨.nil, .nil, fun y h => nomatch h⟩
  | _, _, .cons h t => by
    obtain ⟨⟨t', rfl, ht⟩, hm⟩ := h
    obtain ⟨a, b, c⟩ := back_RL t
    refine ⟨.cons ⟨t', rfl, ht⟩ a, .cons rfl b, fun y hy => ?_⟩
    rcases List.mem_cons.mp hy with h | h
    · rw [h]; exact hm
    · exact c y h
theorem depth_encL (ns : List Int) : (encL ns).depth ≤ 1 := by
  show (PyData.list (ns.map .int)).depth ≤ 1
  rw [PyData.depth, PySem.W.depth_ints]
  omega
theorem c_sortL {X : Cx} (hu : X.A.units + 64 < cLine) : CallR X (.builtin "sorted") (rSortL X.K) := by
  intro pins s σ H vs us Q I r h
  obtain ⟨a, xs, bs, rfl, hs, hx, q⟩ := h
  obtain ⟨its, rv, hl, hz⟩ := I.list hs
  rw [Vals.ref1 r]
  have e : PySem.W.EachIs (fun u ns => RL H u ns ∧ bkV u ∈ xs) its bs := each_RL hx rv
  have er : PySem.W.EachIs (fun v b => ∃ as, Reads s.heap v (encL b) as) its bs := e.mono fun u ns ⟨⟨t, et, ht⟩, _⟩ => by
    obtain ⟨z, its', n, rv', _, e'⟩ := I.lstM ht
    rw [et]
    exact ⟨_, .list e' rfl rfl (by simpa using reads_ints rv'.ints)⟩
  have hal : PySem.W.AllAlike (bs.map encL) := PySem.W.AllAlike.of fun b b' => by
    show PySem.W.alike (.list (b.map .int)) (.list (b'.map .int)) = true
    rw [PySem.W.alike, PySem.W.alike_ints]
  have hk : PySem.W.Sortable (bs.map encL) := .inr fun d hd => by
    obtain ⟨b, hb, rfl⟩ := List.mem_map.mp hd
    exact ⟨(fun h => by cases h), fun xs h => by cases h⟩
  have lx : xs.length = its.length := rv.length
  refine PySem.W.sorted_data (enc := encL) hl.isList e er hal hk (by rw [← e.length, ← lx]; exact hz) (fun b _ => by have := depth_encL b; omega) fun out ho hout => ?_
  have hout : PySem.W.EachIs (fun u ns => RL H u ns ∧ bkV u ∈ xs) out (bs.mergeSort (PySem.W.dataLe false encL)) := hout
  rw [le_lst] at hout
  obtain ⟨h1, h2, h3⟩ := back_RL hout
  obtain ⟨ep, he'⟩ := PyProof.Rows.sortedAll_at s.heap its out.toArray
  have hlen : (out.map bkV).length ≤ sizeLine := by
    rw [List.length_map, ho, ← e.length, ← lx]
    exact hz
  exact ⟨.ref _, upd H (s.heap.objs.size + 1) (.lst (out.map bkV)), I.laid (t' := s.toks) (fun _ _ => PyProof.Rows.sortedAll_old) (Nat.le_succ _) ⟨hlen, out, ep, h2, he'⟩, rfl, q _ _ h1 h3 (I.hok.fresh (Nat.le_succ _))⟩
/-- sorted(xs), xs a list of rows of numbers: the rows themselves, as views -/
def sortL : List O → Option O
  | [.lst _ xs] => (asLs xs).bind fun bs => some (.lst true ((bs.mergeSort leI).map lstI))
  | _ => none
theorem asLs_rp {K : PySem.W.Frag} {H : Hp} {B : Addr → Prop} : ∀ {xs : List O} {bs : List (List Int)} {vs : List V}, asLs xs = some bs → Rps K H B (frzs xs) vs [] → LstsI H vs bs ∧ ∀ v ∈ vs, ∃ a, v = .ref a ∧ ¬ B a
  | [], _, _, h, r => by
    cases h
    rw [r.1]
    exact ⟨.nil, fun v h => by cases h⟩
  | x :: xs, bs, vs, h, r => by
    obtain ⟨t, ht, h⟩ := bind_some (show (asL x).bind (fun t => (asLs xs).bind fun ts => some (t :: ts)) = some bs from h)
    obtain ⟨ts, hts, h⟩ := bind_some h
    cases h
    obtain ⟨v, vr, F1, F2, rfl, e0, h3, h4⟩ := r
    obtain ⟨rfl, rfl⟩ := List.append_eq_nil_iff.mp e0.symm
    obtain ⟨a1, a2⟩ := asLs_rp hts h4
    cases x with
    | lst w ys =>
      have his : asIs ys = some t := ht
      have his' : asIs (frzs ys) = some t := by
        have : ∀ {ys : List O} {t : List Int}, asIs ys = some t → frzs ys = ys := fun {ys} => by
          induction ys with
          | nil => exact fun _ => rfl
          | cons y ys ih =>
            intro t h
            cases y with
            | int j =>
              obtain ⟨is, h1, _⟩ := bind_some (show (asIs ys).bind (fun is => some (j :: is)) = some t from h)
              show O.int j :: frzs ys = _
              rw [ih h1]
            | _ => cases h
        rw [this his]; exact his
      obtain ⟨a, ws, rfl, h5, h6, _, h7⟩ := h3
      have e := asIs_rp his' h7
      subst e
      refine ⟨.cons ⟨a, rfl, h5⟩ a1, fun v hv => ?_⟩
      rcases List.mem_cons.mp hv with h | h
      · exact ⟨a, h, h6⟩
      · exact a2 v h
    | _ => cases ht
theorem lsts_rp {K : PySem.W.Frag} {H : Hp} {B : Addr → Prop} : ∀ {vs : List V} {bs : List (List Int)}, LstsI H vs bs → (∀ v ∈ vs, ∃ a, v = .ref a ∧ ¬ B a) → Rps K H B (bs.map lstI) vs []
  | _, _, .nil, _ => ⟨rfl, rfl⟩
  | _, _, .cons h t, k => by
    obtain ⟨a, rfl, ha⟩ := h
    obtain ⟨b, e, nb⟩ := k (.ref a) List.mem_cons_self
    cases e
    exact ⟨_, _, [], [], rfl, rfl, ⟨a, _, rfl, ha, nb, rfl, Rps.ints rfl⟩, lsts_rp t fun v hv => k v (List.mem_cons_of_mem _ hv)⟩
theorem o_sortL {K : PySem.W.Frag} : OpN K sortL (rSortL K) := by
  intro B H xs o vs F Q e r nd av k
  match xs, e with
  | [.lst own xs], e =>
    obtain ⟨bs, hb, e⟩ := bind_some (show (asLs xs).bind (fun bs => some (O.lst true ((bs.mergeSort leI).map lstI))) = some o from e)
    cases e
    obtain ⟨v, rfl, r1⟩ := rps1 r
    obtain ⟨a, ws, rfl, h2, _, q⟩ := rp_items r1 av
    obtain ⟨t1, t2⟩ := asLs_rp hb q
    refine ⟨a, ws, bs, rfl, SqL.of h2, t1, fun ys p hy hm hp => ?_⟩
    obtain ⟨n3, n4⟩ := new_lst (K := K) (B := B) (G := []) hp (lsts_rp (B := B) hy fun v hv => t2 v (hm v hv)).nilF List.nodup_nil
    exact k (.ref p) _ [p] (same_upd hp) n3 n4 fun z q => .inr (by rw [List.mem_singleton.mp q]; exact hp)
/-! ### xs[a] = b, b with all that it holds -/
def sSetIxC (i : Nat) (a b : SE) : SS := fun τ => (b τ).bind fun o => (a τ).bind fun x => match x, τ[i]? with
  | .int k, some (some (.lst true xs)) => if clean o = true ∧ 0 ≤ k ∧ k.toNat < xs.length then some (.nx (τ.set i (some (.lst true (xs.set k.toNat o))))) else none
  | _, _ => none
theorem sSetIxC_some {i : Nat} {τ : Sl} {o y : O} {r : Fl} (q : (match y, τ[i]? with
    | .int k, some (some (.lst true xs)) => if clean o = true ∧ 0 ≤ k ∧ k.toNat < xs.length then some (Fl.nx (τ.set i (some (.lst true (xs.set k.toNat o))))) else none
    | _, _ => none) = some r) : ∃ (j : Int) (xs : List O), y = .int j ∧ τ[i]? = some (some (.lst true xs)) ∧ clean o = true ∧ 0 ≤ j ∧ j.toNat < xs.length ∧ r = .nx (τ.set i (some (.lst true (xs.set j.toNat o)))) := by
  split at q
  · rename_i j xs hx
    split at q
    · rename_i c
      cases q
      exact ⟨j, xs, rfl, hx, c.1, c.2.1, c.2.2, rfl⟩
    · cases q
  · cases q
theorem Rps.setF {K : PySem.W.Frag} {H : Hp} {B : Addr → Prop} {o : O} {v : V} {F : List Addr} : ∀ {os : List O} {vs : List V} {G : List Addr} {j : Nat}, Rps K H B os vs G → j < os.length → Rp K H B o v F →
    ∃ G', Rps K H B (os.set j o) (vs.set j v) G' ∧ (∀ a ∈ G', a ∈ G ∨ a ∈ F) ∧ (G.Nodup → F.Nodup → (∀ a ∈ F, a ∉ G) → G'.Nodup)
  | [], _, _, _, _, hl, _ => by simp at hl
  | x :: os, _, _, 0, h, _, r => by
    obtain ⟨v0, vr, F1, F2, rfl, rfl, h3, h4⟩ := h
    refine ⟨F ++ F2, ⟨v, vr, F, F2, rfl, rfl, r, h4⟩, fun a z => ?_, fun n1 n2 n3 => ?_⟩
    · rcases List.mem_append.mp z with z | z
      · exact .inr z
      · exact .inl (List.mem_append_right _ z)
    · rw [List.nodup_append] at n1 ⊢
      exact ⟨n2, n1.2.1, fun a ha b hb e => n3 a ha (List.mem_append_right _ (e ▸ hb))⟩
  | x :: os, _, _, j + 1, h, hl, r => by
    obtain ⟨v0, vr, F1, F2, rfl, rfl, h3, h4⟩ := h
    obtain ⟨G2, q1, q2, q3⟩ := Rps.setF (j := j) h4 (by simpa using hl) r
    refine ⟨F1 ++ G2, ⟨v0, vr.set j v, F1, G2, rfl, rfl, h3, q1⟩, fun a z => ?_, fun n1 n2 n3 => ?_⟩
    · rcases List.mem_append.mp z with z | z
      · exact .inl (List.mem_append_left _ z)
      · exact (q2 a z).imp (List.mem_append_right _) id
    · rw [List.nodup_append] at n1 ⊢
      refine ⟨n1.1, q3 n1.2.1 n2 fun a ha hb => n3 a ha (List.mem_append_right _ hb), fun a ha b hb e => ?_⟩
      subst e
      rcases q2 a hb with z | z
      · exact n1.2.2 a ha a z rfl
      · exact n3 a z (List.mem_append_left _ ha)
theorem ds_setixC {X : Cx} {pos : Pos} (i : Nat) {x : Str} {a b : Expr} {fa fb : SE} {na nb : List Nat} {p p2 : Pos} (hb : DE X nb b fb) (ha : DE X na a fa) (hi : X.N[i]? = some x := by rfl) (hv : Vis X.env.scope x := by first | exact Or.inl rfl | exact Or.inr (Or.inl rfl) | exact Or.inr (Or.inr rfl))
    (hd : (x == ("__debug__" : Str)) = false := by decide) (hcd : (x == ("__classdict__" : Str)) = false := by decide)
    (hst : ∀ v, assign (.Subscript (.Name x p) a p2) X.env v = (do
      let ov ← holding [v] (eval (.Name x p) X.env)
      let iv ← holding [v, ov] (eval a X.env)
      standAt p2
      holding [v, ov, iv] (setItem ov iv v)
      release [v, ov, iv] []) := by intro _; rfl)
    (hs : swapsWithSole [.Subscript (.Name x p) a p2] b pos.line X.env = pure false := by rfl) (hw : swappedStores [.Subscript (.Name x p) a p2] b X.env = pure none := by rfl)
    (h1 : (assignEach [.Subscript (.Name x p) a p2] X.env).map (·.2) = [assign (.Subscript (.Name x p) a p2) X.env] := by rfl) :
    DS X (.Assign [.Subscript (.Name x p) a p2] b pos) (sSetIxC i fa fb) := by
  refine (ps_asg hb (pg_sub (pe_var hi hv hd hcd) ha set_list hst) hs hw h1).byD fun D σ H hh => ?_
  obtain ⟨H0, B0, τ, Fs, r, rs, hr, k⟩ := hh
  obtain ⟨o, ho, hr⟩ := bind_some hr
  obtain ⟨y, hy, hr⟩ := bind_some hr
  refine ⟨H0, B0, τ, Fs, o, rs, ho, fun v1 H1 F1 s1 r1 n1 f1 => ?_⟩
  obtain ⟨j, xs, rfl, hx, co, j0, jl, rfl⟩ := sSetIxC_some hr
  obtain ⟨q, vs, G, q1, q2, q3, q4, pG⟩ := rs.lst hx
  refine ⟨.ref q, q1, H0, B0, τ, Fs, _, rs.go s1, hy, fun v2 H2 F2 s2 r2 n2 f2 => ?_⟩
  obtain ⟨rfl, rfl⟩ := r2
  have hl := q4.len
  have s12 : Same H H2 := s1.trans s2
  refine ⟨q, vs, j, j.toNat, rfl, rfl, s12 _ _ q3, ?_, ?_⟩
  · unfold ixN
    rw [if_pos j0, if_pos (by omega)]
  · have q5 := (q4.avoid (B' := Bor (fun a => B0 a ∨ a ∈ Fs.flatten) (G ++ F1)) fun a hn nb z => by
      rcases z with z | z
      · exact nb z
      · rcases List.mem_append.mp z with z | z
        · exact nb (.inr (mem_flat q2 (List.mem_cons_of_mem _ z)))
        · exact hn (f1 a z)).same s12
    have r5 : Rp X.K H2 (Bor (fun a => B0 a ∨ a ∈ Fs.flatten) (G ++ F1)) o v1 F1 := (r1.same s2).clean co
    obtain ⟨G', g1, g2, g3⟩ := Rps.setF (j := j.toNat) q5 jl r5
    have nG := (List.nodup_cons.mp (nodup_part rs.nodup q2)).2
    have dj : ∀ a ∈ F1, a ∉ G := fun a z w => by
      have m := rs.mutF (mem_flat q2 (List.mem_cons_of_mem _ w))
      rw [f1 a z] at m
      exact m
    have n' : (q :: G').Nodup := List.nodup_cons.mpr ⟨fun z => (g2 q z).elim pG fun z => (by
      have := f1 q z
      rw [q3] at this
      cases this), g3 nG n1 dj⟩
    obtain ⟨rs2, st2⟩ := rs.lupd (xs := xs) (xs' := xs.set j.toNat o) (vs' := vs.set j.toNat v1) q2 q1 s12 (g1.mono fun a z => z.imp id fun z => by
      rcases g2 a z with z | z
      · exact List.mem_append_left _ z
      · exact List.mem_append_right _ z) n' fun a z => by
      rcases g2 a z with z | z
      · exact .inl z
      · exact .inr (f1 a z)
    exact k σ _ _ rs2 st2
/-! ### a list times a number -/
end Dv
end
set_option Elab.async false
set_option linter.all false
set_option maxRecDepth 100000
/-! Ea: lists moved from one holder to another. -/
namespace Dv
open PySem PySem.Spec L2
open PyProof.Rows hiding St
/-! ### out of a slot, changed out there, into a slot -/
section
variable {K : PySem.W.Frag} {H0 H H1 H2 : Hp} {B0 : Addr → Prop} {σ : St} {τ : Sl} {Fs : List (List Addr)}
theorem RS.less {E : List Addr} (rs : RS K H0 (Bor B0 E) H σ τ Fs) : RS K H0 B0 H σ τ Fs :=
  ⟨rs.same, fun a z => rs.old a (.inl z), fun a z q => rs.sep a z (.inl q), rs.len, rs.lenσ, rs.nodup, rs.fresh, fun i o h => let ⟨v, F, a, b, c⟩ := rs.slot i o h; ⟨v, F, a, b, c.mono fun x z => z.imp .inl id⟩, rs.nil⟩
theorem RS.conv {B1 : Addr → Prop} (rs : RS K H0 B0 H σ τ Fs) (h : ∀ a, B0 a ↔ B1 a) : RS K H0 B1 H σ τ Fs :=
  ⟨rs.same, fun a z => rs.old a ((h a).mpr z), fun a z q => rs.sep a z ((h a).mpr q), rs.len, rs.lenσ, rs.nodup, rs.fresh, fun i o e => let ⟨v, F, a, b, c⟩ := rs.slot i o e; ⟨v, F, a, b, c.mono fun x z => z.imp (h x).mpr id⟩, rs.nil⟩
theorem RS.lend0 (rs : RS K H0 B0 H σ τ Fs) {i : Nat} {F : List Addr} (hl : i < τ.length) (hF : Fs[i]? = some F) : RS K H0 (Bor B0 F) H σ (τ.set i none) (Fs.set i []) := by
  have sub : ∀ x, x ∈ (Fs.set i []).flatten → ∃ (j : Nat) (G : List Addr), i ≠ j ∧ Fs[j]? = some G ∧ x ∈ G := fun x z => by
    rcases flat_set z with z | ⟨j, G, n, e, z⟩
    · cases z
    · exact ⟨j, G, Ne.symm n, e, z⟩
  refine ⟨rs.same, fun x z => ?_, fun x z q => ?_, by rw [List.length_set, List.length_set]; exact rs.len, by rw [List.length_set]; exact rs.lenσ, set_nodup rs.nodup List.nodup_nil (fun x z => nomatch z), fun x z => ?_, fun j o h => ?_, fun j h => ?_⟩
  · rcases z with z | z
    · exact rs.old x z
    · exact rs.mutF (mem_flat hF z)
  · obtain ⟨j, G, n, e, z⟩ := sub x z
    rcases q with q | q
    · exact rs.sep x (mem_flat e z) q
    · exact n (nodup_one rs.nodup hF e q z)
  · obtain ⟨j, G, n, e, z⟩ := sub x z
    exact rs.fresh x (mem_flat e z)
  · by_cases hj : i = j
    · subst hj
      rw [List.getElem?_set_self hl] at h
      cases h
    · rw [List.getElem?_set_ne hj] at h
      obtain ⟨v, G, h1, h2, h3⟩ := rs.slot j o h
      refine ⟨v, G, h1, by rw [List.getElem?_set_ne hj]; exact h2, h3.mono fun x z => ?_⟩
      rcases z with (z | z) | z
      · exact .inl z
      · exact .inr (mem_flat hF z)
      · obtain ⟨j, G, n, e, z⟩ := sub x z
        exact .inr (mem_flat e z)
  · by_cases hj : i = j
    · subst hj
      exact List.getElem?_set_self (by rw [rs.len]; exact hl)
    · rw [List.getElem?_set_ne hj] at h ⊢
      exact rs.nil j h
/-- what is out there is written -/
theorem RS.poke {p : Addr} {u : HO} (rs : RS K H0 B0 H σ τ Fs) (hp : B0 p) (h0 : H0 p = none) (mu : Mut (some u)) : RS K H0 B0 (L2.upd H p u) σ τ Fs := by
  refine ⟨fun a o e => ?_, fun a z => ?_, rs.sep, rs.len, rs.lenσ, rs.nodup, rs.fresh, fun i o h => ?_, rs.nil⟩
  · rw [upd_ne (fun (z : a = p) => by rw [z, h0] at e; cases e)]
    exact rs.same a o e
  · by_cases h : a = p
    · subst h; rw [upd_same]; exact mu
    · rw [upd_ne h]; exact rs.old a z
  · obtain ⟨v, F, a, b, c⟩ := rs.slot i o h
    exact ⟨v, F, a, b, Rp.ext (C := fun a => a = p) (fun a o n e => by rw [upd_ne n]; exact e) (fun a z => by rw [z]; exact rs.old p hp) (fun a z => .inl (by rw [z]; exact hp)) (fun a z o q => by rw [upd_ne (fun (w : a = p) => rs.sep a (mem_flat b z) (w ▸ hp))]; exact q) c⟩
theorem RS.take {i : Nat} {o : O} {v : V} {F E : List Addr} (rs : RS K H0 (Bor B0 (F ++ E)) H σ τ Fs) (n : (F ++ E).Nodup) (s : ∀ a ∈ F, ¬ B0 a) (f : ∀ a ∈ F, H0 a = none)
    (r : Rp K H (fun a => Bor B0 (F ++ E) a ∨ a ∈ Fs.flatten) o v F) : RS K H0 (Bor B0 E) H (σ.set i (some v)) (τ.set i (some o)) (Fs.set i F) := by
  have dF : ∀ a ∈ F, a ∉ Fs.flatten := fun a z q => rs.sep a q (.inr (List.mem_append_left _ z))
  have inB : ∀ a, (Bor B0 E a ∨ a ∈ (Fs.set i F).flatten) → Bor B0 (F ++ E) a ∨ a ∈ Fs.flatten := fun a z => by
    rcases z with (z | z) | z
    · exact .inl (.inl z)
    · exact .inl (.inr (List.mem_append_right _ z))
    · rcases flat_set z with z | ⟨j, G, _, e, z⟩
      · exact .inl (.inr (List.mem_append_left _ z))
      · exact .inr (mem_flat e z)
  rw [List.nodup_append] at n
  refine ⟨rs.same, fun a z => rs.old a (z.imp id (List.mem_append_right _)), fun a z q => ?_, by rw [List.length_set, List.length_set]; exact rs.len, by rw [List.length_set, List.length_set]; exact rs.lenσ, set_nodup rs.nodup n.1 dF, fun a z => ?_, fun j o' h => ?_, fun j h => ?_⟩
  · rcases flat_set z with z | ⟨j, G, _, e, z⟩
    · rcases q with q | q
      · exact s a z q
      · exact n.2.2 a z a q rfl
    · exact rs.sep a (mem_flat e z) (q.imp id (List.mem_append_right _))
  · rcases flat_set z with z | ⟨j, G, _, e, z⟩
    · exact f a z
    · exact rs.fresh a (mem_flat e z)
  · by_cases hj : i = j
    · subst hj
      have hl : i < τ.length := by have := (List.getElem?_eq_some_iff.mp h).1; rwa [List.length_set] at this
      rw [List.getElem?_set_self hl] at h
      cases h
      exact ⟨v, F, List.getElem?_set_self (by rw [rs.lenσ]; exact hl), List.getElem?_set_self (by rw [rs.len]; exact hl), r.mono inB⟩
    · rw [List.getElem?_set_ne hj] at h
      obtain ⟨v', G, a, b, c⟩ := rs.slot j o' h
      exact ⟨v', G, by rw [List.getElem?_set_ne hj]; exact a, by rw [List.getElem?_set_ne hj]; exact b, c.mono inB⟩
  · by_cases hj : i = j
    · subst hj
      have hl : i < τ.length := by have := (List.getElem?_eq_some_iff.mp h).1; rwa [List.length_set] at this
      rw [List.getElem?_set_self hl] at h
      cases h
    · rw [List.getElem?_set_ne hj] at h ⊢
      exact rs.nil j h
/-- .. the name has had it all the time -/
theorem RS.take' {i : Nat} {o : O} {v : V} {F E : List Addr} (rs : RS K H0 (Bor B0 (F ++ E)) H σ τ Fs) (hv : σ[i]? = some (some v)) (n : (F ++ E).Nodup) (s : ∀ a ∈ F, ¬ B0 a) (f : ∀ a ∈ F, H0 a = none)
    (r : Rp K H (fun a => Bor B0 (F ++ E) a ∨ a ∈ Fs.flatten) o v F) : RS K H0 (Bor B0 E) H σ (τ.set i (some o)) (Fs.set i F) := by
  have h := rs.take (i := i) n s f r
  have e : σ.set i (some v) = σ := by
    apply List.ext_getElem?
    intro j
    by_cases hj : i = j
    · subst hj; rw [List.getElem?_set_self (List.getElem?_eq_some_iff.mp hv).1, hv]
    · rw [List.getElem?_set_ne hj]
  rwa [e] at h
end
/-! ### return [(a, b) for a, b in NAME if t]: the pairs that pass, with all that they hold -/
def outL (B0 : Addr → Prop) (Fs : List (List Addr)) (L : Addr) : Addr → Prop := fun a => (B0 a ∨ a ∈ Fs.flatten) ∨ a = L
def pickD (j1 j2 : Nat) (t : ST) : List O → Sl → Option (List O)
  | [], _ => some []
  | .tup [y, z] :: xs, τ => (t ((τ.set j1 (some (frz y))).set j2 (some (frz z)))).bind fun b => (pickD j1 j2 t xs τ).bind fun os => some (if b then .tup [y, z] :: os else os)
  | _ :: _, _ => none
def sRetPick (ns vs : List Nat) (i j1 j2 : Nat) (t : ST) : SS := fun τ => match τ[i]? with
  | some (some (.lst true xs)) => if xs.length ≤ sLine ∧ j1 < τ.length ∧ j2 < τ.length then (pickD j1 j2 t xs (wipeD vs (keepD ns 0 τ))).bind fun os => some (.rt (.lst true os)) else none
  | _ => none
theorem pickD_cons {j1 j2 : Nat} {t : ST} {x : O} {xs os : List O} {τ : Sl} (h : pickD j1 j2 t (x :: xs) τ = some os) : ∃ y z b r, x = .tup [y, z] ∧ t ((τ.set j1 (some (frz y))).set j2 (some (frz z))) = some b ∧ pickD j1 j2 t xs τ = some r ∧ os = if b then x :: r else r := by
  unfold pickD at h
  split at h
  · rename_i e
    cases e
  · rename_i y z xs' e
    cases e
    obtain ⟨b, h1, h⟩ := bind_some h
    obtain ⟨r, h2, h⟩ := bind_some h
    cases h
    exact ⟨y, z, b, r, rfl, h1, h2, rfl⟩
  · cases h
section
variable {X : Cx}
theorem pick_imp {ns vs : List Nat} {i j1 j2 : Nat} {t : ST} (hin : i ∈ ns) (h1v : j1 ∈ vs) (h2v : j2 ∈ vs) (h12 : j1 ≠ j2) {D : Ends} {σ : St} {H : Hp} (q : tS X.K (sRetPick ns vs i j1 j2 t) D σ H) :
    tLc (iSeq X.K (tVar i)) (gTup X.K 2 (gCons (gName j1) (gCons (gName j2) gNil))) (tT X.K t) (tTup (tCons (tVar j1) (tCons (tVar j2) tNil))) vs σ H D.rt := by
  obtain ⟨H0, B0, τ, Fs, r, rs, hr, k⟩ := q
  unfold sRetPick at hr
  split at hr
  case h_2 => cases hr
  rename_i xs hτ
  split at hr
  case isFalse => cases hr
  rename_i hl3
  obtain ⟨hl0, hl1, hl2⟩ := hl3
  obtain ⟨os, hos, hr⟩ := bind_some hr
  cases hr
  generalize hτb : wipeD vs (keepD ns 0 τ) = τb at hos
  obtain ⟨p, ws, G0, e1, e2, e3, e4, e5⟩ := rs.lst hτ
  have hi : i < τ.length := (List.getElem?_eq_some_iff.mp hτ).1
  refine ⟨.ref p, e1, .inl ⟨p, rfl, ⟨ws, SqL.of e3⟩, fun L hL => ?_⟩⟩
  obtain ⟨B, hB⟩ : ∃ B, B = outL B0 Fs L := ⟨_, rfl⟩
  have g0 : Rps X.K H B xs ws G0 := e4.avoid fun a ne n z => by
    rw [hB] at z
    rcases z with z | z
    · exact n z
    · exact ne (by rw [z]; exact hL)
  have Lnot : ∀ a ∈ G0, a ≠ L := fun a z w => by
    have := rs.mutF (mem_flat e2 (List.mem_cons_of_mem _ z))
    rw [w, hL] at this; exact this
  have hlen := e4.len
  refine ⟨fun n m Hc => ∃ ao av Gk Gr r, n ≤ xs.length ∧ m = xs.length - n ∧ Same H Hc ∧ Hc L = some (.lst av) ∧ pickD j1 j2 t (xs.drop n) τb = some r ∧ os = ao ++ r ∧ Rps X.K Hc B ao av Gk ∧ Rps X.K H B (xs.drop n) (ws.drop n) Gr ∧ (Gk ++ Gr).Sublist G0 ∧ ao.length ≤ n,
    ⟨_, [], [], [], G0, os, Nat.zero_le _, rfl, same_upd hL, upd_same, hos, rfl, ⟨rfl, rfl⟩, g0, List.Sublist.refl _, Nat.le_refl _⟩, ?_⟩
  rintro n m Hc ⟨ao, av, Gk, Gr, r, hn, rfl, sc, hLc, hr, eo, rk, rr, sub, hal⟩
  by_cases hlt : n < xs.length
  · refine .inr ⟨⟨ws, ws[n]'(by omega), SqL.of (sc _ _ e3), List.getElem?_eq_getElem _⟩, fun H' => ∃ ao av Gk Gr r, Same H H' ∧ H' L = some (.lst av) ∧ pickD j1 j2 t (xs.drop (n + 1)) τb = some r ∧ os = ao ++ r ∧ Rps X.K H' B ao av Gk ∧ Rps X.K H B (xs.drop (n + 1)) (ws.drop (n + 1)) Gr ∧ (Gk ++ Gr).Sublist G0 ∧ ao.length ≤ n + 1,
      fun H' ⟨ao, av, Gk, Gr, r, a, b, c, d, e, f, g, h⟩ => ⟨xs.length - (n + 1), by omega, ao, av, Gk, Gr, r, hlt, rfl, a, b, c, d, e, f, g, h⟩, fun x H3 y => ?_⟩
    obtain ⟨rfl, y⟩ := y
    have hx : ws[n]? = some x := y ws (SqL.of (sc _ _ e3))
    rw [List.drop_eq_getElem_cons hlt] at hr rr
    obtain ⟨y1, y2, b, r', ex, hb, hr', eos⟩ := pickD_cons hr
    have hwn : n < ws.length := by omega
    have ewn : ws[n] = x := by rw [List.getElem?_eq_getElem hwn] at hx; exact Option.some.inj hx
    rw [List.drop_eq_getElem_cons hwn] at rr
    obtain ⟨v, vr, F1, F2, ev, eF, r1, r2⟩ := rr
    rw [ewn] at ev
    obtain ⟨rfl, rfl⟩ := List.cons.inj ev
    subst eF
    rw [ex] at r1
    obtain ⟨ta, us, ev, ht, ru⟩ := r1
    subst ev
    obtain ⟨u1, ur, Fa, Fb0, rfl, rfl, ra, rb0⟩ := ru
    obtain ⟨u2, ur2, Fb, Fc, rfl, rfl, rb, rc⟩ := rb0
    obtain ⟨rfl, rfl⟩ := rc
    have mL : ∀ a ∈ [L], Mut (H3 a) := fun a z => by rw [List.mem_singleton.mp z, hLc]; trivial
    have rb1 := RS.block (K := X.K) (ns := ns) (vs := vs) (G := [L]) rs (Same.refl H) sc mL (fun a z => by rw [List.mem_singleton.mp z]; exact hL)
    rw [hτb] at rb1
    have inG : ∀ a ∈ Fa ++ (Fb ++ []), a ∈ G0 := fun a z => sub.subset (List.mem_append_right _ (List.mem_append_left _ z))
    have nb : ∀ a ∈ Fa ++ (Fb ++ []), ¬ (Bor (Av B0 ns Fs) [L]) a := fun a z q => by
      rcases q with (q | ⟨j, G, hj, e, z'⟩) | q
      · exact rs.sep a (mem_flat e2 (List.mem_cons_of_mem _ (inG a z))) q
      · exact hj (nodup_one rs.nodup e2 e (List.mem_cons_of_mem _ (inG a z)) z' ▸ hin)
      · exact Lnot a (inG a z) (List.mem_singleton.mp q)
    have toB : ∀ a, Bor (Av B0 ns Fs) [L] a → B a := fun a q => by
      rw [hB]
      rcases q with q | q
      · exact .inl q.all
      · exact .inr (List.mem_singleton.mp q)
    have fa : Rp X.K H3 (Bor (Av B0 ns Fs) [L]) (Dv.frz y1) u1 [] := ((ra.mono toB).frz fun a z => nb a (List.mem_append_left _ z)).same sc
    have fb : Rp X.K H3 (Bor (Av B0 ns Fs) [L]) (Dv.frz y2) u2 [] := ((rb.mono toB).frz fun a z => nb a (List.mem_append_right _ (List.mem_append_left _ z))).same sc
    have rs1' := rb1.setv (i := j1) (fa.mono fun a z => by rcases z with z | z; exact z; rw [rep_flat] at z; cases z)
    have rs1 := rs1'.1
    have emp : ∀ {a : Addr}, a ∉ ((List.replicate τ.length ([] : List Addr)).set j1 []).flatten := fun {a} z => by
      rcases flat_set z with z | ⟨j, G, _, e, z⟩
      · cases z
      · rw [rep_get e] at z; cases z
    have rs2' := rs1.setv (i := j2) (fb.mono fun a z => by rcases z with z | z; exact z; exact absurd z emp)
    have rs2 := rs2'.1
    refine ⟨ta, [u1, u2], rfl, SqT.of (sc _ _ ht), rfl, u1, [u2], rfl, u2, [], rfl, rfl, ?_, ?_⟩
    · rw [wipe_set_in h2v, wipe_set_in h1v, wipe_idem]
    · refine ⟨H3, _, _, _, b, rs2, hb, fun H4 s4 => ?_⟩
      have s04 := sc.trans s4
      cases b with
      | false =>
        rw [if_neg Bool.false_ne_true] at eos
        rw [eos] at eo
        exact iteF ⟨ao, av, Gk, F2, r', s04, s4 _ _ hLc, hr', eo, rk.same s4, r2, (List.Sublist.append (List.Sublist.refl _) (List.sublist_append_right _ _)).trans sub, Nat.le_succ_of_le hal⟩
      | true =>
        rw [if_pos rfl] at eos
        rw [eos] at eo
        have ls : (wipe σ vs).length = τ.length := by rw [wipe_length]; exact rs.lenσ
        have l1' : j1 < (wipe σ vs).length := by rw [ls]; exact hl1
        have l2' : j2 < (wipe σ vs).length := by rw [ls]; exact hl2
        have hLp : ∀ {p' : Addr}, H4 p' = none → (L2.upd H4 p' (.tup [u1, u2])) L = some (.lst av) := fun {p'} hp => same_upd hp _ _ (s4 _ _ hLc)
        refine iteT ⟨u1, ?_, u2, List.getElem?_set_self (by rw [List.length_set]; exact l2'), (show 2 ≤ sizeLine by decide), fun p' hp => ⟨av, hLp hp, ?_, ao ++ [.tup [y1, y2]], av ++ [.ref p'], Gk ++ (Fa ++ (Fb ++ [])), F2, r', ?_, upd_same, hr', by rw [eo, ex, List.append_assoc]; rfl, ?_, r2, by rw [List.append_assoc]; exact sub, by rw [List.length_append]; exact Nat.succ_le_succ hal⟩⟩
        · rw [List.getElem?_set_ne (Ne.symm h12), List.getElem?_set_self l1']
        · rw [← rk.len]
          have : sLine = sizeLine := rfl
          omega
        · intro a u q
          rw [upd_ne (fun (z : a = L) => by rw [z, hL] at q; cases q)]
          exact same_upd hp _ _ (s04 a u q)
        · have s5 : Same H4 (L2.upd H4 p' (.tup [u1, u2])) := same_upd hp
          have t1 : Rps X.K (L2.upd H4 p' (.tup [u1, u2])) B ao av Gk := rk.same (s4.trans s5)
          have t2 : Rps X.K (L2.upd H4 p' (.tup [u1, u2])) B [.tup [y1, y2]] [.ref p'] (Fa ++ (Fb ++ [])) := ⟨.ref p', [], _, [], rfl, (List.append_nil _).symm, ⟨p', [u1, u2], rfl, upd_same, u1, [u2], Fa, Fb ++ [], rfl, rfl, ra.same (s04.trans s5), u2, [], Fb, [], rfl, rfl, rb.same (s04.trans s5), rfl, rfl⟩, rfl, rfl⟩
          refine (t1.append t2).other (by rw [hB]; exact .inr rfl) (by rw [hLp hp]; trivial) fun z => ?_
          rcases List.mem_append.mp z with z | z
          · exact Lnot _ (sub.subset (List.mem_append_left _ z)) rfl
          · exact Lnot _ (inG _ z) rfl
  · have en : n = xs.length := by omega
    subst en
    rw [List.drop_length] at hr
    cases hr
    rw [List.append_nil] at eo
    subst eo
    refine .inl ⟨⟨ws, SqL.of (sc _ _ e3), by omega⟩, ?_⟩
    have sg := (List.sublist_append_left Gk Gr).trans sub
    refine k (.ref L) Hc (L :: Gk) (rs.same.trans sc) ⟨L, av, Gk, rfl, hLc, rfl, rk.mono fun a z => ?_⟩ (List.nodup_cons.mpr ⟨fun z => Lnot L (sg.subset z) rfl, sg.nodup (List.nodup_cons.mp (nodup_part rs.nodup e2)).2⟩) fun a z => ?_
    · rw [hB]
      rcases z with z | z
      · exact .inl (.inl z)
      · rcases List.mem_cons.mp z with z | z
        · exact .inr z
        · exact .inl (.inr (mem_flat e2 (List.mem_cons_of_mem _ (sg.subset z))))
    · rcases List.mem_cons.mp z with z | z
      · rw [z]; exact rs.same.free hL
      · exact rs.fresh a (mem_flat e2 (List.mem_cons_of_mem _ (sg.subset z)))
theorem ds_retPick {ns : List Nat} {i j1 j2 : Nat} {elt tg iter : Expr} {ifs : List Expr} {scope : Scope} {own : List (Str × Nat)} {pos rpos : Pos} {t : ST} (hc : X.calm = true) (hN : X.N.Nodup) (hi : PE X iter (tVar i)) (ok : BlkOk X.N X.env.scope scope own)
    (hg : ∀ (s : Shared) (H : Hp) (C : Addr) (cl : List (Str × Addr)) (fp : List Addr), PG (X.blk s H scope (compEnvC scope cl C X.env) fp) tg (gTup X.K 2 (gCons (gName j1) (gCons (gName j2) gNil))))
    (ht : ∀ (s : Shared) (H : Hp) (C : Addr) (cl : List (Str × Addr)) (fp : List Addr), PTs (X.blk s H scope (compEnvC scope cl C X.env) fp) ifs (tT X.K t))
    (he : ∀ (s : Shared) (H : Hp) (C : Addr) (cl : List (Str × Addr)) (fp : List Addr), PE (X.blk s H scope (compEnvC scope cl C X.env) fp) elt (tTup (tCons (tVar j1) (tCons (tVar j2) tNil))))
    (hin : i ∈ ns := by decide) (h1v : j1 ∈ own.map (·.2) := by decide) (h2v : j2 ∈ own.map (·.2) := by decide) (h12 : j1 ≠ j2 := by decide) (hs : ∀ x, foldedSetIterable iter X.env x = pure x := by intro _; rfl) :
    DS X (.Return (some (.ListComp elt [⟨tg, iter, ifs, 0⟩] scope pos)) rpos) (sRetPick ns (own.map (·.2)) i j1 j2 t) :=
  (ps_ret (pe_lc hc hN (pi_seq hi) ok hg ht he hs)).byD fun D σ H q => pick_imp hin h1v h2v h12 q
end
end Dv
set_option Elab.async false
set_option linter.all false
set_option maxRecDepth 100000
/-! Eb: a name's list put into a list; a loop over a new list of pairs that takes them over; sorted of a name's lists; each list of a list made longer. -/
namespace Dv
open PySem PySem.Spec L2
open PyProof.Rows hiding St
theorem mem_set0 {Fs : List (List Addr)} {j : Nat} {a : Addr} (z : a ∈ (Fs.set j []).flatten) : a ∈ Fs.flatten := by
  rcases flat_set z with z | ⟨k, G, _, e, z⟩
  · cases z
  · exact mem_flat e z
/-! ### NAME.append(OTHER): OTHER has nothing any more -/
def sAppMv (i j : Nat) : SS := fun τ => match τ[j]?, τ[i]? with
  | some (some o), some (some (.lst true xs)) => if i ≠ j ∧ clean o = true ∧ xs.length < sLine then some (.nx ((τ.set j none).set i (some (.lst true (xs ++ [o]))))) else none
  | _, _ => none
theorem sAppMv_some {i j : Nat} {τ : Sl} {r : Fl} (h : sAppMv i j τ = some r) : ∃ o xs, τ[j]? = some (some o) ∧ τ[i]? = some (some (.lst true xs)) ∧ i ≠ j ∧ clean o = true ∧ xs.length < sLine ∧ r = .nx ((τ.set j none).set i (some (.lst true (xs ++ [o])))) := by
  unfold sAppMv at h
  split at h
  · rename_i o xs h1 h2
    split at h
    · rename_i c
      cases h
      exact ⟨o, xs, h1, h2, c.1, c.2.1, c.2.2, rfl⟩
    · cases h
  · cases h
section
variable {X : Cx} {pos : Pos}
theorem ds_appMv (i j : Nat) {x y : Str} {p pa pp p2 : Pos} (hi : X.N[i]? = some x) (hv : Vis X.env.scope x) (hj : X.N[j]? = some y) (hvj : Vis X.env.scope y)
    (hd : (x == ("__debug__" : Str)) = false := by decide) (hcd : (x == ("__classdict__" : Str)) = false := by decide) (hd2 : (y == ("__debug__" : Str)) = false := by decide) (hcd2 : (y == ("__classdict__" : Str)) = false := by decide)
    (hbase : attributeBase (.Name x p) "append" X.env (eval (.Name x p) X.env) = eval (.Name x p) X.env := by rfl)
    (hfew : ((backTo pp (starEach [Expr.Name y p2] X.env)).all (fun x => !x.1) && (backToKw pp (keywordEach [] X.env)).all (fun x => x.1.isSome)
      && decide ([Expr.Name y p2].length + ([] : List Keyword).length + (if ([] : List Keyword).isEmpty then 0 else 1) < 30)) = true := by rfl)
    (hline : (pa.endLine == pp.line) = true := by rfl) (hs : starEach [.Name y p2] X.env = (false, eval (.Name y p2) X.env) :: starEach [] X.env := by rfl) (hpl : (backTo pp (starEach [] X.env)).any (·.1) = false := by rfl)
    (hsw : swapsWith (.Call (.Attribute (.Name x p) "append" pa) [.Name y p2] [] pp) none pos.line X.env = pure false := by rfl) :
    DS X (.Expr (.Call (.Attribute (.Name x p) "append" pa) [.Name y p2] [] pp) pos) (sAppMv i j) := by
  refine (ps_expr (pe_bm PySem.F.plainAttrs_list PySem.F.slot_list_append PySem.F.type_list_append mt_append (pe_var hi hv hd hcd) (pa_cons (pe_var hj hvj hd2 hcd2) pa_nil hs) hbase hfew hline hs hpl) hsw).byD fun D σ H h => ?_
  obtain ⟨H0, B0, τ, Fs, r, rs, hr, k⟩ := h
  obtain ⟨o, xs, h1, h2, hij, co, hl, rfl⟩ := sAppMv_some hr
  obtain ⟨q, vs, G, e1, e2, e3, e4, e5⟩ := rs.lst h2
  obtain ⟨v, Fj, f1, f2, f3⟩ := rs.slot j o h1
  have li : i < τ.length := (List.getElem?_eq_some_iff.mp h2).1
  have lj : j < τ.length := (List.getElem?_eq_some_iff.mp h1).1
  refine ⟨.ref q, e1, .inl ⟨rfl, vs, SqL.of e3⟩, v, f1, q, vs, v, rfl, rfl, e3, by rw [← e4.len]; exact hl, ?_⟩
  have dj : ∀ a ∈ q :: G, a ∉ Fj := fun a z w => hij (nodup_one rs.nodup e2 f2 z w)
  have nF : (q :: (G ++ Fj)).Nodup := by
    have n1 := List.nodup_cons.mp (nodup_part rs.nodup e2)
    refine List.nodup_cons.mpr ⟨fun z => ?_, List.nodup_append.mpr ⟨n1.2, nodup_part rs.nodup f2, fun a z b z' w => dj a (List.mem_cons_of_mem _ z) (w ▸ z')⟩⟩
    rcases List.mem_append.mp z with z | z
    · exact n1.1 z
    · exact dj q List.mem_cons_self z
  have inF : ∀ a ∈ q :: (G ++ Fj), a ∈ Fs.flatten := fun a z => by
    rcases List.mem_cons.mp z with z | z
    · rw [z]; exact mem_flat e2 List.mem_cons_self
    · rcases List.mem_append.mp z with z | z
      · exact mem_flat e2 (List.mem_cons_of_mem _ z)
      · exact mem_flat f2 z
  have rs1 := rs.lend0 lj f2
  have rs2 := rs1.lend0 (i := i) (F := q :: G) (by rw [List.length_set]; exact li) (by rw [List.getElem?_set_ne (Ne.symm hij)]; exact e2)
  have rs3 : RS X.K H0 (Bor B0 (q :: (G ++ Fj))) H σ ((τ.set j none).set i none) ((Fs.set j []).set i []) := rs2.conv fun a => ⟨fun z => by
    rcases z with (z | z) | z
    · exact .inl z
    · exact .inr (List.mem_cons_of_mem _ (List.mem_append_right _ z))
    · rcases List.mem_cons.mp z with z | z
      · exact .inr (by rw [z]; exact List.mem_cons_self)
      · exact .inr (List.mem_cons_of_mem _ (List.mem_append_left _ z)), fun z => by
    rcases z with z | z
    · exact .inl (.inl z)
    · rcases List.mem_cons.mp z with z | z
      · exact .inr (by rw [z]; exact List.mem_cons_self)
      · rcases List.mem_append.mp z with z | z
        · exact .inr (List.mem_cons_of_mem _ z)
        · exact .inl (.inr z)⟩
  have rs4 := rs3.poke (p := q) (u := .lst (vs ++ [v])) (.inr List.mem_cons_self) (rs.fresh q (mem_flat e2 List.mem_cons_self)) trivial
  have mq : Mut (H q) := by rw [e3]; trivial
  have inB : ∀ a, (Bor B0 (q :: (G ++ Fj)) a ∨ a ∈ ((Fs.set j []).set i []).flatten) → (B0 a ∨ a ∈ Fs.flatten) := fun a z => by
    rcases z with (z | z) | z
    · exact .inl z
    · exact .inr (inF a z)
    · exact .inr (mem_set0 (mem_set0 z))
  have r1 : Rps X.K (L2.upd H q (.lst (vs ++ [v]))) (fun a => B0 a ∨ a ∈ Fs.flatten) (xs ++ [o]) (vs ++ [v]) (G ++ Fj) :=
    (e4.other (.inr (mem_flat e2 List.mem_cons_self)) mq e5).append ⟨v, [], Fj, [], rfl, (List.append_nil _).symm, f3.other (.inr (mem_flat e2 List.mem_cons_self)) mq (dj q List.mem_cons_self), rfl, rfl⟩
  have rs5 := RS.take' (i := i) (E := []) (rs4.conv (B1 := Bor B0 ((q :: (G ++ Fj)) ++ [])) fun a => by rw [List.append_nil]) e1 (by rw [List.append_nil]; exact nF) (fun a z => rs.sep a (inF a z)) (fun a z => rs.fresh a (inF a z)) (o := .lst true (xs ++ [o])) ⟨q, vs ++ [v], G ++ Fj, rfl, upd_same, rfl, r1.mono fun a z => inB a (by rw [List.append_nil] at z; exact z)⟩
  have e : ((τ.set j none).set i none).set i (some (.lst true (xs ++ [o]))) = (τ.set j none).set i (some (.lst true (xs ++ [o]))) := List.set_set ..
  rw [e] at rs5
  refine k σ _ _ rs5.less ⟨fun a u n h => ?_, fun a z => .inl ?_⟩
  · rw [upd_ne (fun (w : a = q) => n (by rw [w]; exact mem_flat e2 List.mem_cons_self))]; exact h
  · rcases flat_set z with z | ⟨l, G', _, e, z⟩
    · exact inF a z
    · exact mem_set0 (mem_set0 (mem_flat e z))
end
/-! ### for a, b in a new list of pairs: the names take over what the pairs hold -/
def forM (j1 j2 : Nat) (b : SS) : List O → SS
  | [], τ => some (.nx τ)
  | .tup [y, z] :: xs, τ => match b ((τ.set j1 (some y)).set j2 (some z)) with
    | some (.nx τ') => forM j1 j2 b xs τ'
    | some (.ct τ') => forM j1 j2 b xs τ'
    | some (.bk τ') => some (.nx τ')
    | some (.rt o) => some (.rt o)
    | none => none
  | _ :: _, _ => none
theorem forM_cons {j1 j2 : Nat} {b : SS} {x : O} {xs : List O} {τ : Sl} {r : Fl} (h : forM j1 j2 b (x :: xs) τ = some r) : ∃ y z, x = .tup [y, z] ∧ (match b ((τ.set j1 (some y)).set j2 (some z)) with
    | some (.nx τ') => forM j1 j2 b xs τ'
    | some (.ct τ') => forM j1 j2 b xs τ'
    | some (.bk τ') => some (.nx τ')
    | some (.rt o) => some (.rt o)
    | none => none) = some r := by
  match x, h with
  | .tup [y, z], h => exact ⟨y, z, rfl, h⟩
def sForM (j1 j2 : Nat) (f : SE) (b : SS) : SS := fun τ => (f τ).bind fun x => match x with
  | .lst true xs => if cleans xs = true ∧ j1 ≠ j2 then forM j1 j2 b xs τ else none
  | _ => none
section
variable {X : Cx} {tg e : Expr} {ns : List Nat} {f : SE} {pos : Pos}
theorem ds_forM {j1 j2 : Nat} {body : List Stmt} {sb : SS} (hp : PassesOwn (model X.prog X.w) X.A X.env X.xe) (hc : X.calm = true) (he : DE X ns e f) (hg : PG X tg (gTup X.K 2 (gCons (gName j1) (gCons (gName j2) gNil)))) (hb : DSs X body sb) (hs : ∀ x, foldedSetIterable e X.env x = pure x := by intro _; rfl) :
    DS X (.For tg e body [] pos) (sForM j1 j2 f sb) := by
  refine (ps_for hp hc (pi_seq he) hg hb hs).byD fun D σ H h => ?_
  obtain ⟨H0, B0, τ, Fs, r, rs, hr, k⟩ := h
  obtain ⟨x, hx, hr⟩ := bind_some hr
  refine ⟨H0, B0, τ, Fs, x, rs, hx, fun v H1 F s1 r1 n1 f1 => ?_⟩
  split at hr
  case h_2 => cases hr
  rename_i xs
  split at hr
  case isFalse => cases hr
  rename_i hh
  obtain ⟨hcl, h12⟩ := hh
  obtain ⟨a, ws, G, rfl, ha, rfl, rx⟩ := r1
  refine .inl ⟨a, rfl, ⟨ws, SqL.of ha⟩, ?_⟩
  have ll := rx.len
  have freshF : ∀ z ∈ a :: G, ¬ B0 z ∧ H0 z = none := fun z w => ⟨fun q => by
    have := rs.old z q
    rw [f1 z w] at this; exact this, rs.same.free (f1 z w)⟩
  have rs0 : RS X.K H0 (Bor B0 (a :: G)) H1 σ τ Fs := rs.more s1 (fun z w => by
    rcases List.mem_cons.mp w with w | w
    · rw [w, ha]; trivial
    · exact rx.own z w) f1
  have st0 : Step Fs Fs H H1 := ⟨Ext.of s1, fun z w => .inl w⟩
  refine ⟨fun n m σ' H' => ∃ τ' Fs' Gr, RS X.K H0 (Bor B0 (a :: Gr)) H' σ' τ' Fs' ∧ forM j1 j2 sb (xs.drop n) τ' = some r ∧ Step Fs Fs' H H' ∧ H' a = some (.lst ws) ∧ Rps X.K H' (fun _ => False) (xs.drop n) (ws.drop n) Gr ∧ cleans (xs.drop n) = true ∧ (a :: Gr).Sublist (a :: G) ∧ m = xs.length - n ∧ n ≤ xs.length,
    ⟨_, τ, Fs, G, rs0, hr, st0, ha, rx.clean hcl, hcl, List.Sublist.refl _, rfl, Nat.zero_le _⟩, ?_⟩
  rintro n m σ2 H2 ⟨τ2, Fs2, Gr, rs2, h2, st2, ha2, rr, hc2, sub, rfl, hn⟩
  by_cases hlt : n < xs.length
  · refine .inr ⟨⟨ws, ws[n]'(by omega), SqL.of ha2, List.getElem?_eq_getElem _⟩, fun σ' H' => ∃ τ' Fs' Gr, RS X.K H0 (Bor B0 (a :: Gr)) H' σ' τ' Fs' ∧ forM j1 j2 sb (xs.drop (n + 1)) τ' = some r ∧ Step Fs Fs' H H' ∧ H' a = some (.lst ws) ∧ Rps X.K H' (fun _ => False) (xs.drop (n + 1)) (ws.drop (n + 1)) Gr ∧ cleans (xs.drop (n + 1)) = true ∧ (a :: Gr).Sublist (a :: G),
      fun σ' H' ⟨τ', Fs', Gr, q1, q2, q3, q4, q5, q6, q7⟩ => ⟨xs.length - (n + 1), by omega, τ', Fs', Gr, q1, q2, q3, q4, q5, q6, q7, rfl, hlt⟩, fun x H3 y => ?_⟩
    obtain ⟨eH, y⟩ := y
    subst eH
    have hx : ws[n]? = some x := y ws (SqL.of ha2)
    have hwn : n < ws.length := by omega
    have ewn : ws[n] = x := by rw [List.getElem?_eq_getElem hwn] at hx; exact Option.some.inj hx
    rw [List.drop_eq_getElem_cons hlt] at h2 rr hc2
    rw [List.drop_eq_getElem_cons hwn, ewn] at rr
    have hc2' : (clean xs[n] && cleans (xs.drop (n + 1))) = true := hc2
    rw [Bool.and_eq_true] at hc2'
    obtain ⟨v, vr, F1, F2, ev, eF, r1, r2⟩ := rr
    obtain ⟨rfl, rfl⟩ := List.cons.inj ev
    subst eF
    generalize hxn : xs[n] = xn at h2 r1 hc2'
    obtain ⟨y1, y2, rfl, hz⟩ := forM_cons h2; clear h2; have h2 := hz
    · obtain ⟨ta, us, ev, ht, ru⟩ := r1
      subst ev
      obtain ⟨u1, ur, Fa, Fb0, rfl, rfl, ra, rb0⟩ := ru
      obtain ⟨u2, ur2, Fb, Fc, rfl, rfl, rb, rc⟩ := rb0
      obtain ⟨rfl, rfl⟩ := rc
      have hc3 : (clean y1 && (clean y2 && true)) = true := hc2'.1
      rw [Bool.and_eq_true, Bool.and_eq_true] at hc3
      have inG : ∀ z ∈ a :: ((Fa ++ (Fb ++ [])) ++ F2), z ∈ a :: G := fun z w => sub.subset w
      have nG : (a :: ((Fa ++ (Fb ++ [])) ++ F2)).Nodup := sub.nodup n1
      have pm : (Fa ++ (Fb ++ (a :: F2))).Perm (a :: ((Fa ++ (Fb ++ [])) ++ F2)) := by
        rw [List.append_nil, List.append_assoc, ← List.append_assoc Fa Fb (a :: F2), ← List.append_assoc Fa Fb F2]
        exact List.perm_middle
      have rs3 : RS X.K H0 (Bor B0 (Fa ++ (Fb ++ (a :: F2)))) H3 σ2 τ2 Fs2 := rs2.conv fun z => ⟨fun w => w.imp id pm.mem_iff.mpr, fun w => w.imp id pm.mem_iff.mp⟩
      have nP := pm.nodup_iff.mpr nG
      have inP : ∀ z ∈ Fa ++ (Fb ++ (a :: F2)), z ∈ a :: G := fun z w => inG z (pm.mem_iff.mp w)
      have rs4 := rs3.take (i := j1) (o := y1) nP (fun z w => (freshF z (inP z (List.mem_append_left _ w))).1) (fun z w => (freshF z (inP z (List.mem_append_left _ w))).2) (ra.clean hc3.1)
      have rs5 := rs4.take (i := j2) (o := y2) (List.nodup_append.mp nP).2.1 (fun z w => (freshF z (inP z (List.mem_append_right _ (List.mem_append_left _ w)))).1) (fun z w => (freshF z (inP z (List.mem_append_right _ (List.mem_append_left _ w)))).2) (rb.clean hc3.2.1)
      have st5 : Step Fs ((Fs2.set j1 Fa).set j2 Fb) H H3 := ⟨st2.ext, fun z w => by
        rcases flat_set w with w | ⟨l, L, _, e, w⟩
        · exact .inr (f1 z (inP z (List.mem_append_right _ (List.mem_append_left _ w))))
        · rcases flat_set (mem_flat e w) with w | ⟨l, L, _, e, w⟩
          · exact .inr (f1 z (inP z (List.mem_append_left _ w)))
          · exact st2.new z (mem_flat e w)⟩
      refine ⟨ta, [u1, u2], rfl, SqT.of ht, rfl, u1, [u2], rfl, u2, [], rfl, rfl, ?_⟩
      have later : ∀ σ5 H5 Fs5 τ5, RS X.K H0 (Bor B0 (a :: F2)) H5 σ5 τ5 Fs5 → Step ((Fs2.set j1 Fa).set j2 Fb) Fs5 H3 H5 → forM j1 j2 sb (xs.drop (n + 1)) τ5 = some r → ∃ τ' Fs' Gr, RS X.K H0 (Bor B0 (a :: Gr)) H5 σ5 τ' Fs' ∧ forM j1 j2 sb (xs.drop (n + 1)) τ' = some r ∧ Step Fs Fs' H H5 ∧ H5 a = some (.lst ws) ∧ Rps X.K H5 (fun _ => False) (xs.drop (n + 1)) (ws.drop (n + 1)) Gr ∧ cleans (xs.drop (n + 1)) = true ∧ (a :: Gr).Sublist (a :: G) := fun σ5 H5 Fs5 τ5 rs6 st6 h6 => by
        have out : ∀ z ∈ a :: F2, z ∉ ((Fs2.set j1 Fa).set j2 Fb).flatten := fun z w q => rs5.sep z q (.inr w)
        refine ⟨τ5, Fs5, F2, rs6, h6, st5.trans st6 (fun z w => rs.mutF w), st6.ext a _ (out a List.mem_cons_self) ha2, ?_, hc2'.2, (List.Sublist.cons_cons _ (List.sublist_append_right _ _)).trans sub⟩
        have r3 : Rps X.K H3 (fun z => z ∈ ((Fs2.set j1 Fa).set j2 Fb).flatten) (xs.drop (n + 1)) (ws.drop (n + 1)) F2 := r2.clean hc2'.2
        exact (r3.ext (C := fun z => z ∈ ((Fs2.set j1 Fa).set j2 Fb).flatten) st6.ext (fun z w => rs5.mutF w) (fun z w => w) fun z w u q => st6.ext z u (out z (List.mem_cons_of_mem _ w)) q).clean hc2'.2
      cases hy : sb ((τ2.set j1 (some y1)).set j2 (some y2)) with
      | none => rw [hy] at h2; cases h2
      | some p =>
        rw [hy] at h2
        refine ⟨H0, _, _, _, p, rs5, hy, ?_⟩
        cases p with
        | nx τ5 => exact fun σ5 H5 Fs5 rs6 st6 => later σ5 H5 Fs5 τ5 rs6 st6 h2
        | ct τ5 => exact fun σ5 H5 Fs5 rs6 st6 => later σ5 H5 Fs5 τ5 rs6 st6 h2
        | bk τ5 => cases h2; exact fun σ5 H5 Fs5 rs6 st6 => k σ5 H5 Fs5 rs6.less (st5.trans st6 fun z w => rs.mutF w)
        | rt o => cases h2; exact fun v H' F s r n f => k v H' F s (r.mono fun z w => w.imp .inl id) n f
  · have e : n = xs.length := by omega
    subst e
    rw [List.drop_length] at h2
    cases h2
    exact .inl ⟨⟨ws, SqL.of ha2, by omega⟩, k σ2 H2 Fs2 rs2.less st2⟩
end
end Dv
set_option Elab.async false
set_option linter.all false
set_option maxRecDepth 100000
/-! Ec: return sorted(NAME) of lists of its own; each list of a list made longer; a list of lists turned about. -/
namespace Dv
open PySem PySem.Spec L2
open PyProof.Rows hiding St
/-! ### sorted of rows, with what stands where -/
abbrev encP (c : List Int × V) : PyData := encL c.1
def rSortM (K : PySem.W.Frag) : List V → Hp → VK → Prop := fun vs H Q => ∃ (a : Addr) (xs : List V) (bs : List (List Int)), vs = [V.ref a] ∧ SqL K H a xs ∧ LstsI H xs bs ∧
  ∀ (cs : List (List Int × V)) (p : Addr), cs.Perm (bs.zip xs) → cs.map (·.1) = bs.mergeSort leI → H p = none → Q (.ref p) (upd H p (.lst (cs.map (·.2))))
theorem each_RP {H : Hp} : ∀ {xs : List V} {its : List Value} {bs : List (List Int)}, LstsI H xs bs → Vals xs its → PySem.W.EachIs (fun u c => RL H u c.1 ∧ bkV u = c.2) its (bs.zip xs) := by
  intro xs its bs h rv
  induction h generalizing its with
  | nil => cases rv; exact .nil
  | cons h t ih =>
    cases rv with
    | cons r rr =>
      obtain ⟨t', rfl, ht⟩ := h
      cases r
      exact .cons ⟨⟨t', rfl, ht⟩, rfl⟩ (ih rr)
theorem back_RP {H : Hp} : ∀ {its : List Value} {cs : List (List Int × V)}, PySem.W.EachIs (fun u c => RL H u c.1 ∧ bkV u = c.2) its cs → Vals (cs.map (·.2)) its
  | _, _, .nil => .nil
  | _, _, .cons h t => by
    obtain ⟨⟨t', rfl, ht⟩, hm⟩ := h
    refine .cons ?_ (back_RP t)
    have hm' : V.ref t' = _ := hm
    exact Eq.mp (congrArg (fun z => RelV z (Value.ref t')) hm') rfl
theorem zip_fst' {α β : Type} : ∀ {xs : List α} {ys : List β}, xs.length = ys.length → (xs.zip ys).map (·.1) = xs
  | [], _, _ => by simp
  | x :: xs, [], h => by simp at h
  | x :: xs, y :: ys, h => by
    rw [List.zip_cons_cons, List.map_cons, zip_fst' (by simpa using h)]
theorem zip_snd' {α β : Type} : ∀ {xs : List α} {ys : List β}, xs.length = ys.length → (xs.zip ys).map (·.2) = ys
  | [], [], _ => rfl
  | [], _ :: _, h => by simp at h
  | x :: xs, [], h => by simp at h
  | x :: xs, y :: ys, h => by
    rw [List.zip_cons_cons, List.map_cons, zip_snd' (by simpa using h)]
theorem c_sortM {X : Cx} (hu : X.A.units + 64 < cLine) : CallR X (.builtin "sorted") (rSortM X.K) := by
  intro pins s σ H vs us Q I r h
  obtain ⟨a, xs, bs, rfl, hs, hx, q⟩ := h
  obtain ⟨its, rv, hl, hz⟩ := I.list hs
  rw [Vals.ref1 r]
  have e : PySem.W.EachIs (fun u c => RL H u c.1 ∧ bkV u = c.2) its (bs.zip xs) := each_RP hx rv
  have er : PySem.W.EachIs (fun v c => ∃ as, Reads s.heap v (encP c) as) its (bs.zip xs) := e.mono fun u c ⟨⟨t, et, ht⟩, _⟩ => by
    obtain ⟨z, its', n, rv', _, e'⟩ := I.lstM ht
    rw [et]
    exact ⟨_, .list e' rfl rfl (by simpa using reads_ints rv'.ints)⟩
  have hal : PySem.W.AllAlike ((bs.zip xs).map encP) := PySem.W.AllAlike.of fun b b' => by
    show PySem.W.alike (.list (b.1.map .int)) (.list (b'.1.map .int)) = true
    rw [PySem.W.alike, PySem.W.alike_ints]
  have hk : PySem.W.Sortable ((bs.zip xs).map encP) := .inr fun d hd => by
    obtain ⟨b, hb, rfl⟩ := List.mem_map.mp hd
    exact ⟨(fun h => by cases h), fun xs h => by cases h⟩
  have lx : xs.length = its.length := rv.length
  have lb : bs.length = xs.length := hx.length.symm
  refine PySem.W.sorted_data (enc := encP) hl.isList e er hal hk (by rw [← e.length, ← lx]; exact hz) (fun b _ => by have := depth_encL b.1; show _ + (encL b.1).depth < _; omega) fun out ho hout => ?_
  generalize hcs : (bs.zip xs).mergeSort (PySem.W.dataLe false encP) = cs at hout
  have pm : cs.Perm (bs.zip xs) := hcs ▸ List.mergeSort_perm _ _
  have fs : cs.map (·.1) = bs.mergeSort leI := by
    rw [← hcs]
    have h1 := List.map_mergeSort (f := fun c : List Int × V => c.1) (r := PySem.W.dataLe false encP) (s := leI) (l := bs.zip xs) (fun a _ b _ => by
      show PySem.W.dataLe false encL a.1 b.1 = leI a.1 b.1
      have : PySem.W.dataLe false encL = leI := le_lst
      rw [this])
    rw [h1, zip_fst' lb]
  have h2 := back_RP hout
  obtain ⟨ep, he'⟩ := PyProof.Rows.sortedAll_at s.heap its out.toArray
  have hlen : (cs.map (·.2)).length ≤ sizeLine := by
    rw [List.length_map, ← hout.length, ho, ← e.length, ← lx]
    exact hz
  exact ⟨.ref _, upd H (s.heap.objs.size + 1) (.lst (cs.map (·.2))), I.laid (t' := s.toks) (fun _ _ => PyProof.Rows.sortedAll_old) (Nat.le_succ _) ⟨hlen, out, ep, h2, he'⟩, rfl, q _ _ pm fs (I.hok.fresh (Nat.le_succ _))⟩
def asLO : List O → Option (List (List Int))
  | [] => some []
  | .lst true ys :: xs => (asIs ys).bind fun t => (asLO xs).bind fun ts => some (t :: ts)
  | _ :: _ => none
def sRetSortM (i : Nat) : SS := fun τ => match τ[i]? with
  | some (some (.lst true xs)) => (asLO xs).bind fun bs => some (.rt (.lst true ((bs.mergeSort leI).map fun b => .lst true (b.map O.int))))
  | _ => none
def adrV : V → Addr
  | .ref a => a
  | _ => 0
theorem asLO_rp {K : PySem.W.Frag} {H : Hp} {B : Addr → Prop} : ∀ {xs : List O} {bs : List (List Int)} {vs : List V} {G : List Addr}, asLO xs = some bs → Rps K H B xs vs G → LstsI H vs bs ∧ G = vs.map adrV ∧ ∀ c ∈ bs.zip vs, ∃ t, c.2 = .ref t ∧ H t = some (.lst (c.1.map V.int))
  | [], bs, vs, G, h, r => by
    cases h
    obtain ⟨rfl, rfl⟩ := r
    exact ⟨.nil, rfl, fun c h => nomatch h⟩
  | x :: xs, bs, vs, G, h, r => by
    match x, h with
    | .lst true ys, h =>
      obtain ⟨t, ht, h⟩ := bind_some (show ((asIs ys).bind fun t => (asLO xs).bind fun ts => some (t :: ts)) = some bs from h)
      obtain ⟨ts, hts, h⟩ := bind_some h
      cases h
      obtain ⟨v, vr, F1, F2, rfl, rfl, h3, h4⟩ := r
      obtain ⟨a1, a2, a3⟩ := asLO_rp hts h4
      obtain ⟨a, ws, G1, rfl, h5, rfl, h7⟩ := h3
      have e := asIs_rp ht h7
      have e2 : G1 = [] := by
        have : ∀ {ys : List O} {t : List Int} {ws : List V} {G1 : List Addr}, asIs ys = some t → Rps K H B ys ws G1 → G1 = [] := by
          intro ys
          induction ys with
          | nil => intro t ws G1 _ q; exact q.2
          | cons y ys ih =>
            intro t ws G1 h q
            cases y with
            | int j =>
              obtain ⟨is, h1, _⟩ := bind_some (show (asIs ys).bind (fun is => some (j :: is)) = some t from h)
              obtain ⟨v, vr, F1, F2, _, rfl, q1, q2⟩ := q
              rw [q1.2, ih h1 q2]; rfl
            | _ => cases h
        exact this ht h7
      subst e e2 a2
      refine ⟨.cons ⟨a, rfl, h5⟩ a1, rfl, fun c hc => ?_⟩
      rcases List.mem_cons.mp hc with hc | hc
      · rw [hc]; exact ⟨a, rfl, h5⟩
      · exact a3 c hc
theorem own_rows {K : PySem.W.Frag} {H : Hp} {B : Addr → Prop} : ∀ {cs : List (List Int × V)}, (∀ c ∈ cs, ∃ t, c.2 = V.ref t ∧ H t = some (.lst (c.1.map V.int))) → Rps K H B ((cs.map (·.1)).map fun b => .lst true (b.map O.int)) (cs.map (·.2)) ((cs.map (·.2)).map adrV)
  | [], _ => ⟨rfl, rfl⟩
  | c :: cs, h => by
    obtain ⟨t, h1, h2⟩ := h c List.mem_cons_self
    refine ⟨c.2, _, [t], _, rfl, ?_, ⟨t, _, [], h1, h2, rfl, Rps.ints rfl⟩, own_rows fun d hd => h d (List.mem_cons_of_mem _ hd)⟩
    show adrV c.2 :: _ = _
    rw [h1]; rfl
section
variable {X : Cx} {pos : Pos}
theorem ds_retSortM (i : Nat) {x : Str} {p pf pc : Pos} (hu : X.A.units + 64 < cLine) (hm : X.mg "sorted" = none) (hi : X.N[i]? = some x) (hv : Vis X.env.scope x)
    (hd : (x == ("__debug__" : Str)) = false := by decide) (hcd : (x == ("__classdict__" : Str)) = false := by decide) (hg : Gl X "sorted" := by rfl)
    (hs : starEach [Expr.Name x p] X.env = (false, eval (.Name x p) X.env) :: starEach [] X.env := by rfl) (hpl : (backTo pc (starEach [] X.env)).any (·.1) = false := by rfl) :
    DS X (.Return (some (.Call (.Name "sorted" pf) [.Name x p] [] pc)) pos) (sRetSortM i) := by
  refine (ps_ret (pe_callB (c_sortM hu) hg hm (by decide +kernel) (pa_cons (pe_var hi hv hd hcd) pa_nil hs) (by decide) (by decide) hs hpl)).byD fun D σ H h => ?_
  obtain ⟨H0, B0, τ, Fs, r, rs, hr, k⟩ := h
  unfold sRetSortM at hr
  split at hr
  case h_2 => cases hr
  rename_i xs hτ
  obtain ⟨bs, hb, hr⟩ := bind_some hr
  cases hr
  obtain ⟨q, vs, G, e1, e2, e3, e4, e5⟩ := rs.lst hτ
  obtain ⟨g1, rfl, g3⟩ := asLO_rp hb e4
  refine ⟨.ref q, e1, q, vs, bs, rfl, SqL.of e3, g1, fun cs p pm fs hp => ?_⟩
  have lb : bs.length = vs.length := g1.length.symm
  have pv : ((cs.map (·.2)).map adrV).Perm (vs.map adrV) := by
    have := (pm.map (·.2)).map adrV
    rwa [zip_snd' lb] at this
  have own := own_rows (K := X.K) (H := H) (B := Bor B0 (p :: (cs.map (·.2)).map adrV)) (cs := cs) fun c hc => g3 c (pm.mem_iff.mp hc)
  rw [fs] at own
  have nG := (List.nodup_cons.mp (nodup_part rs.nodup e2)).2
  have fr : ∀ a ∈ (cs.map (·.2)).map adrV, a ∈ Fs.flatten := fun a z => mem_flat e2 (List.mem_cons_of_mem _ (pv.mem_iff.mp z))
  refine k (.ref p) _ (p :: (cs.map (·.2)).map adrV) (rs.same.trans (same_upd hp)) ⟨p, _, _, rfl, upd_same, rfl, own.same (same_upd hp)⟩ (List.nodup_cons.mpr ⟨fun z => ?_, pv.nodup_iff.mpr nG⟩) fun a z => ?_
  · have := rs.mutF (fr p z)
    rw [hp] at this; exact this
  · rcases List.mem_cons.mp z with z | z
    · rw [z]; exact rs.same.free hp
    · exact rs.fresh a (fr a z)
end
/-! ### for row in NAME: row.append(number) -/
def appAll (c : Int) : List O → Option (List O)
  | [] => some []
  | .lst true ys :: r => if ys.length < sLine then (appAll c r).bind fun q => some (.lst true (ys ++ [.int c]) :: q) else none
  | _ :: _ => none
def sForApp (i j : Nat) (c : Int) : SS := fun τ => match τ[i]? with
  | some (some (.lst true xs)) => (appAll c xs).bind fun ys => if i ≠ j ∧ j < τ.length then some (.nx ((τ.set j none).set i (some (.lst true ys)))) else none
  | _ => none
theorem appAll_at {c : Int} : ∀ {xs ys : List O}, appAll c xs = some ys → ys.length = xs.length ∧ ∀ n (h : n < xs.length) (h' : n < ys.length), ∃ zs, xs[n] = .lst true zs ∧ zs.length < sLine ∧ ys[n] = .lst true (zs ++ [.int c])
  | [], ys, h => by cases h; exact ⟨rfl, fun n h => nomatch h⟩
  | x :: xs, ys, h => by
    match x, h with
    | .lst true zs, h =>
      unfold appAll at h
      split at h
      · rename_i hl
        obtain ⟨q, hq, h⟩ := bind_some h
        cases h
        obtain ⟨l, r⟩ := appAll_at hq
        refine ⟨by simp [l], fun n h h' => ?_⟩
        cases n with
        | zero => exact ⟨zs, rfl, hl, rfl⟩
        | succ n => exact r n (by simpa using h) (by simpa using h')
      · cases h
theorem set_step' {α : Type} {xs ys : List α} {n : Nat} (hx : n < xs.length) (l : ys.length = xs.length) : (ys.take n ++ xs.drop n).set n (ys[n]'(by omega)) = ys.take (n + 1) ++ xs.drop (n + 1) := by
  have ht : (ys.take n).length = n := by rw [List.length_take]; omega
  rw [List.set_append_right _ _ (by omega), ht, Nat.sub_self, List.drop_eq_getElem_cons hx, List.set_cons_zero, List.take_succ_eq_append_getElem (by omega), List.append_assoc]
  rfl
theorem RS.sig {K : PySem.W.Frag} {H0 H : Hp} {B0 : Addr → Prop} {σ : St} {τ : Sl} {Fs : List (List Addr)} {j : Nat} {x : Option V} (rs : RS K H0 B0 H σ τ Fs) (h : τ[j]? = some none) : RS K H0 B0 H (σ.set j x) τ Fs :=
  ⟨rs.same, rs.old, rs.sep, rs.len, by rw [List.length_set]; exact rs.lenσ, rs.nodup, rs.fresh, fun i o e => by
    obtain ⟨v, F, a, b, c⟩ := rs.slot i o e
    refine ⟨v, F, ?_, b, c⟩
    rw [List.getElem?_set_ne (fun q => by subst q; rw [h] at e; cases e)]
    exact a, rs.nil⟩
section
variable {X : Cx} {pos : Pos} {tg : Expr}
theorem ds_forApp (i j : Nat) {c : Int} {x y : Str} {p p1 pa pp pc pe pt : Pos} {kc : Nat} (hp : PassesOwn (model X.prog X.w) X.A X.env X.xe) (hc : X.calm = true) (hN : X.N.Nodup) (hi : X.N[i]? = some x) (hv : Vis X.env.scope x) (hj : X.N[j]? = some y) (hvj : Vis X.env.scope y)
    (hx : Loc X.env.scope y) (hf : X.fn y = true ∨ X.env.scope.names.lookup y = some .local)
    (hd : (x == ("__debug__" : Str)) = false := by decide) (hcd : (x == ("__classdict__" : Str)) = false := by decide) (hd2 : (y == ("__debug__" : Str)) = false := by decide) (hcd2 : (y == ("__classdict__" : Str)) = false := by decide)
    (hbase : attributeBase (.Name y p) "append" X.env (eval (.Name y p) X.env) = eval (.Name y p) X.env := by rfl)
    (hfew : ((backTo pp (starEach [Expr.Constant (.int c) kc pc] X.env)).all (fun x => !x.1) && (backToKw pp (keywordEach [] X.env)).all (fun x => x.1.isSome)
      && decide ([Expr.Constant (.int c) kc pc].length + ([] : List Keyword).length + (if ([] : List Keyword).isEmpty then 0 else 1) < 30)) = true := by rfl)
    (hline : (pa.endLine == pp.line) = true := by rfl) (hs : starEach [Expr.Constant (.int c) kc pc] X.env = (false, eval (.Constant (.int c) kc pc) X.env) :: starEach [] X.env := by rfl) (hpl : (backTo pp (starEach [] X.env)).any (·.1) = false := by rfl)
    (hsw : swapsWith (.Call (.Attribute (.Name y p) "append" pa) [.Constant (.int c) kc pc] [] pp) none pe.line X.env = pure false := by rfl) (hs2 : ∀ z, foldedSetIterable (.Name x p1) X.env z = pure z := by intro _; rfl) :
    DS X (.For (.Name y pt) (.Name x p1) [.Expr (.Call (.Attribute (.Name y p) "append" pa) [.Constant (.int c) kc pc] [] pp) pe] [] pos) (sForApp i j c) := by
  refine (ps_for hp hc (pi_seq (pe_var hi hv hd hcd)) (pg_name hN hj hx hf) (pss_one (ps_expr (pe_bm PySem.F.plainAttrs_list PySem.F.slot_list_append PySem.F.type_list_append mt_append (pe_var hj hvj hd2 hcd2) (pa_cons pe_int pa_nil hs) hbase hfew hline hs hpl) hsw)) hs2).byD fun D σ H h => ?_
  obtain ⟨H0, B0, τ, Fs, r, rs, hr, k⟩ := h
  unfold sForApp at hr
  split at hr
  case h_2 => cases hr
  rename_i xs hτ
  obtain ⟨ys, hy, hr⟩ := bind_some hr
  split at hr
  case isFalse => cases hr
  rename_i hh
  obtain ⟨hij, lj⟩ := hh
  cases hr
  obtain ⟨lyx, hat⟩ := appAll_at hy
  obtain ⟨q, vs, G, e1, e2, e3, e4, e5⟩ := rs.lst hτ
  have li : i < τ.length := (List.getElem?_eq_some_iff.mp hτ).1
  have lv := e4.len
  obtain ⟨Fj, hFj⟩ : ∃ Fj, Fs[j]? = some Fj := ⟨_, List.getElem?_eq_getElem (by rw [rs.len]; exact lj)⟩
  have rs2 := ((rs.lend0 lj hFj).less).lend0 (i := i) (F := q :: G) (by rw [List.length_set]; exact li) (by rw [List.getElem?_set_ne (Ne.symm hij)]; exact e2)
  have hτj : ((τ.set j none).set i none)[j]? = some none := by
    rw [List.getElem?_set_ne hij, List.getElem?_set_self lj]
  have inF : ∀ a ∈ q :: G, a ∈ Fs.flatten := fun a z => mem_flat e2 z
  have sub1 : ∀ a ∈ ((Fs.set j []).set i []).flatten, a ∈ Fs.flatten := fun a z => mem_set0 (mem_set0 z)
  have nG := List.nodup_cons.mp (nodup_part rs.nodup e2)
  refine ⟨.ref q, e1, .inl ⟨q, rfl, ⟨vs, SqL.of e3⟩, fun n m σ' H' => ∃ G', RS X.K H0 (Bor B0 (q :: G)) H' σ' ((τ.set j none).set i none) ((Fs.set j []).set i []) ∧ σ'[i]? = some (some (.ref q)) ∧ H' q = some (.lst vs) ∧ G'.Perm G ∧ Rps X.K H' (fun a => B0 a ∨ a ∈ Fs.flatten) (ys.take n ++ xs.drop n) vs G' ∧ Ext (fun a => a ∈ Fs.flatten) H H' ∧ m = xs.length - n ∧ n ≤ xs.length,
    ⟨_, G, rs2, e1, e3, List.Perm.refl _, by rw [List.take_zero, List.drop_zero]; exact e4, (fun _ _ _ e => e), rfl, Nat.zero_le _⟩, ?_⟩⟩
  rintro n m σ2 H2 ⟨G', rs3, s3, h3, pm, r3, ex3, rfl, hn⟩
  by_cases hlt : n < xs.length
  · have hv2 : n < vs.length := by omega
    refine .inr ⟨⟨vs, vs[n], SqL.of h3, List.getElem?_eq_getElem hv2⟩, fun σ' H' => ∃ G', RS X.K H0 (Bor B0 (q :: G)) H' σ' ((τ.set j none).set i none) ((Fs.set j []).set i []) ∧ σ'[i]? = some (some (.ref q)) ∧ H' q = some (.lst vs) ∧ G'.Perm G ∧ Rps X.K H' (fun a => B0 a ∨ a ∈ Fs.flatten) (ys.take (n + 1) ++ xs.drop (n + 1)) vs G' ∧ Ext (fun a => a ∈ Fs.flatten) H H',
      fun σ' H' ⟨G', a1, a2, a3, a4, a5, a6⟩ => ⟨xs.length - (n + 1), by omega, G', a1, a2, a3, a4, a5, a6, rfl, hlt⟩, fun z H3 w => ?_⟩
    obtain ⟨eH, w⟩ := w
    subst eH
    have hz : vs[n]? = some z := w vs (SqL.of h3)
    obtain ⟨zs, ex, hl, ey⟩ := hat n hlt (by omega)
    have hcur : (ys.take n ++ xs.drop n)[n]? = some (.lst true zs) := by
      rw [List.getElem?_append_right (by rw [List.length_take]; omega), List.length_take, show n - min n ys.length = 0 by omega, List.getElem?_drop, Nat.add_zero, List.getElem?_eq_getElem hlt, ex]
    have nG' : G'.Nodup := pm.nodup_iff.mpr nG.2
    obtain ⟨p2, ws, q1, q2, q3, q4, q5⟩ := Rps.app (o := .int c) r3 hcur (fun a z => .inr (mem_flat e2 (List.mem_cons_of_mem _ (pm.mem_iff.mp z)))) nG'
    rw [hz] at q1
    cases q1
    have pG : p2 ∈ G := pm.mem_iff.mp q4
    obtain ⟨G2, w1, w2⟩ := q5 H3 (.int c) [] (fun a => B0 a ∨ a ∈ Fs.flatten) (Same.refl _) (fun _ h => h) (fun _ _ h => h) (fun h => nomatch h) ⟨rfl, rfl⟩
    rw [List.append_nil] at w1
    refine ⟨.ref p2, ?_, .inl ⟨rfl, ws, SqL.of q2⟩, p2, ws, .int c, rfl, rfl, q2, by rw [q3]; exact hl, G2, (rs3.sig hτj).poke (.inr (List.mem_cons_of_mem _ pG)) (rs.fresh _ (mem_flat e2 (List.mem_cons_of_mem _ pG))) trivial, ?_, ?_, w1.trans pm, ?_, fun a u n h => ?_⟩
    · rw [List.getElem?_set_self (by rw [rs3.lenσ, List.length_set, List.length_set]; exact lj)]
    · rw [List.getElem?_set_ne (Ne.symm hij)]; exact s3
    · rw [upd_ne (fun (h : q = p2) => nG.1 (h ▸ pG))]; exact h3
    · rw [← set_step' hlt lyx, ey]; exact w2
    · rw [upd_ne (fun (w : a = p2) => n (by rw [w]; exact mem_flat e2 (List.mem_cons_of_mem _ pG)))]
      exact ex3 a u n h
  · have en : n = xs.length := by omega
    subst en
    rw [List.drop_length, List.append_nil, ← lyx, List.take_length] at r3
    have pm2 : (q :: G').Perm (q :: G) := pm.cons q
    have rs4 := RS.take' (i := i) (F := q :: G') (E := []) (rs3.conv (B1 := Bor B0 ((q :: G') ++ [])) fun a => by rw [List.append_nil]; exact ⟨fun z => z.imp id pm2.mem_iff.mpr, fun z => z.imp id pm2.mem_iff.mp⟩) s3 (by rw [List.append_nil]; exact pm2.nodup_iff.mpr (List.nodup_cons.mpr nG)) (fun a z => rs.sep a (inF a (pm2.mem_iff.mp z))) (fun a z => rs.fresh a (inF a (pm2.mem_iff.mp z))) (o := .lst true ys) ⟨q, vs, G', rfl, h3, rfl, r3.mono fun a z => by
      rw [List.append_nil] at z
      rcases z with (z | z) | z
      · exact .inl z
      · exact .inr (inF a (pm2.mem_iff.mp z))
      · exact .inr (sub1 a z)⟩
    have e : ((τ.set j none).set i none).set i (some (.lst true ys)) = (τ.set j none).set i (some (.lst true ys)) := List.set_set ..
    rw [e] at rs4
    refine .inl ⟨⟨vs, SqL.of h3, by omega⟩, k σ2 H2 _ rs4.less ⟨ex3, fun a z => .inl ?_⟩⟩
    rcases flat_set z with z | ⟨l, L, _, e, z⟩
    · exact inF a (pm2.mem_iff.mp z)
    · exact sub1 a (mem_flat e z)
/-! ### NAME.reverse(), whatever stands in it -/
def sRevM (i : Nat) : SS := fun τ => match τ[i]? with
  | some (some (.lst true xs)) => some (.nx (τ.set i (some (.lst true xs.reverse))))
  | _ => none
theorem Rps.revF {K : PySem.W.Frag} {B : Addr → Prop} {H : Hp} : ∀ {os : List O} {vs : List V} {F : List Addr}, Rps K H B os vs F → ∃ F', F'.Perm F ∧ Rps K H B os.reverse vs.reverse F'
  | [], _, _, h => by
    obtain ⟨rfl, rfl⟩ := h
    exact ⟨[], List.Perm.refl _, rfl, rfl⟩
  | x :: os, _, _, h => by
    obtain ⟨v, vr, F1, F2, rfl, rfl, h3, h4⟩ := h
    obtain ⟨F', p, r⟩ := Rps.revF h4
    refine ⟨F' ++ F1, (List.perm_append_comm).trans (List.Perm.append_left F1 p), ?_⟩
    rw [List.reverse_cons, List.reverse_cons]
    exact r.append ⟨v, [], F1, [], rfl, (List.append_nil _).symm, h3, rfl, rfl⟩
theorem ds_revM (i : Nat) {x : Str} {p pa pp : Pos} (hi : X.N[i]? = some x) (hv : Vis X.env.scope x)
    (hd : (x == ("__debug__" : Str)) = false := by decide) (hcd : (x == ("__classdict__" : Str)) = false := by decide)
    (hbase : attributeBase (.Name x p) "reverse" X.env (eval (.Name x p) X.env) = eval (.Name x p) X.env := by rfl) (hline : (pa.endLine == pp.line) = true := by rfl)
    (hsw : swapsWith (.Call (.Attribute (.Name x p) "reverse" pa) [] [] pp) none pos.line X.env = pure false := by rfl) :
    DS X (.Expr (.Call (.Attribute (.Name x p) "reverse" pa) [] [] pp) pos) (sRevM i) := by
  refine (ps_expr (pe_bm0 PySem.F.plainAttrs_list PySem.F.slot_list_reverse PySem.F.type_list_reverse mt_reverse (pe_var hi hv hd hcd) hbase hline) hsw).byD fun D σ H hh => ?_
  obtain ⟨H0, B0, τ, Fs, r, rs, hr, k⟩ := hh
  unfold sRevM at hr
  split at hr
  case h_2 => cases hr
  rename_i xs hτ
  cases hr
  obtain ⟨q, vs, G, e1, e2, e3, e4, e5⟩ := rs.lst hτ
  obtain ⟨G', pm, r2⟩ := e4.revF
  have nG := List.nodup_cons.mp (nodup_part rs.nodup e2)
  refine ⟨.ref q, e1, .inl ⟨rfl, vs, SqL.of e3⟩, q, vs, rfl, rfl, e3, ?_⟩
  obtain ⟨rs2, st2⟩ := rs.lupd (xs := xs) (xs' := xs.reverse) (vs' := vs.reverse) (G' := G') e2 e1 (Same.refl H) (r2.mono fun a z => z.elim id fun z => .inr (mem_flat e2 (List.mem_cons_of_mem _ (pm.mem_iff.mp z)))) (List.nodup_cons.mpr ⟨fun z => nG.1 (pm.mem_iff.mp z), pm.nodup_iff.mpr nG.2⟩) fun a z => .inl (pm.mem_iff.mp z)
  exact k σ _ _ rs2 st2
end
end Dv
section
set_option Elab.async false
set_option linter.all false
set_option maxRecDepth 100000
namespace Sm
open Dv
-- def _law_power(_law_number): _law_number=0
noncomputable def s__law_power : SS :=
  sRet (x2 modD (x2 powD (x2 modD (xV 0) (xC (.int 1000003))) (xC (.int 5))) (xC (.int 1000003)))
noncomputable def f__law_power : List O → Option O := fnD 1 1 s__law_power
-- def _law_draws(_law_script, _law_many_here): _law_script=0 _law_many_here=1 _law_rows=2 _law_mix=3 _law_cell=4 _law_rest=5
noncomputable def c1__law_draws : ST :=
  Dv.tAnd (tOf (x2 gtD (xV 5) (xC (.int 0)))) (tOf (x2 ltD (xF lenD' (xsC (xV 2) (xsN))) (xV 1)))
noncomputable def b1__law_draws : SS :=
  sSeq (sApp [5] 2 (x2 modD (xV 5) (xC (.int 1000003))))
  (sSet [5] 5 (x2 fdivD (xV 5) (xC (.int 1000003))))
noncomputable def b2__law_draws : SS :=
  sSeq (sSet [3, 4] 3 (x2 modD (x2 addD (x2 mulD (xV 3) (xC (.int 48271))) (xV 4)) (xC (.int 2147483647))))
  (sSeq (sSet [4] 5 (xF absD (xsC (xV 4) (xsN))))
  (sSeq (sIf (tOf (x2 ltD (xV 5) (x2 powD (xC (.int 10)) (xC (.int 18))))) (sSeq (sApp [4, 2] 2 (xCall f__law_power (xsC (x2 addD (xV 4) (x2 mulD (xC (.int 1009)) (xF lenD' (xsC (xV 2) (xsN))))) (xsN))))
  (sSet [] 5 (xC (.int 0)))) (sN))
  (sWhl (c1__law_draws) (b1__law_draws))))
noncomputable def c2__law_draws : ST :=
  tOf (x2 ltD (xF lenD' (xsC (xV 2) (xsN))) (xV 1))
noncomputable def b3__law_draws : SS :=
  sSeq (sSet [3] 3 (x2 modD (x2 addD (x2 mulD (xV 3) (xC (.int 48271))) (xC (.int 11))) (xC (.int 2147483647))))
  (sApp [3] 2 (xCall f__law_power (xsC (xV 3) (xsN))))
noncomputable def s__law_draws : SS :=
  sSeq (sSet [] 2 (xLst (xsN)))
  (sSeq (sSet [] 3 (xC (.int 7)))
  (sSeq (sFor [0] (itL (xSl (xV 0) pN (pI (xC (.int 63))))) (gN 4) (b2__law_draws))
  (sSeq (sWhl (c2__law_draws) (b3__law_draws))
  (sRetV 2))))
noncomputable def f__law_draws : List O → Option O := fnD 2 6 s__law_draws
-- def _law_turned(_law_one, _law_other): _law_one=0 _law_other=1
noncomputable def s__law_turned : SS :=
  sRet (x2 subD (x2 mulD (x2 ixD (xV 0) (xC (.int 0))) (x2 ixD (xV 1) (xC (.int 1)))) (x2 mulD (x2 ixD (xV 0) (xC (.int 1))) (x2 ixD (xV 1) (xC (.int 0)))))
noncomputable def f__law_turned : List O → Option O := fnD 2 2 s__law_turned
-- def _law_way(_law_one, _law_two, _law_wide): _law_one=0 _law_two=1 _law_wide=2 _law_x=3 _law_y=4
noncomputable def s__law_way : SS :=
  sSeq (sSet [0, 2, 2] 3 (x2 subD (x2 modD (xV 0) (x2 addD (x2 mulD (xC (.int 2)) (xV 2)) (xC (.int 1)))) (xV 2)))
  (sSeq (sSet [1, 2, 2] 4 (x2 subD (x2 modD (xV 1) (x2 addD (x2 mulD (xC (.int 2)) (xV 2)) (xC (.int 1)))) (xV 2)))
  (sSeq (sIf (Dv.tAnd (tOf (x2 eqD (xV 3) (xC (.int 0)))) (tOf (x2 eqD (xV 4) (xC (.int 0))))) (sSet [0] 3 (x2 subD (xC (.int 1)) (x2 mulD (xC (.int 2)) (x2 modD (xV 0) (xC (.int 2)))))) (sN))
  (sRet (xTup (xsC (xV 3) (xsC (xV 4) (xsN)))))))
noncomputable def f__law_way : List O → Option O := fnD 3 5 s__law_way
-- def _law_left_pair(_law_d, _law_wide): _law_d=0 _law_wide=1 _law_one=2 _law_other=3
noncomputable def s__law_left_pair : SS :=
  sSeq (sSet [0, 0, 1] 2 (xCall f__law_way (xsC (x2 ixD (xV 0) (xC (.int 0))) (xsC (x2 ixD (xV 0) (xC (.int 1))) (xsC (xV 1) (xsN))))))
  (sSeq (sSet [0, 0, 1] 3 (xCall f__law_way (xsC (x2 ixD (xV 0) (xC (.int 2))) (xsC (x2 ixD (xV 0) (xC (.int 3))) (xsC (xV 1) (xsN))))))
  (sSeq (sIf (tOf (x2 eqD (x2 modD (x2 ixD (xV 0) (xC (.int 4))) (xC (.int 4))) (xC (.int 1)))) (sSet [2, 2] 3 (xTup (xsC (x1 negD (x2 ixD (xV 2) (xC (.int 1)))) (xsC (x2 ixD (xV 2) (xC (.int 0))) (xsN))))) (sN))
  (sSeq (sIf (tOf (x2 ltD (xCall f__law_turned (xsC (xV 2) (xsC (xV 3) (xsN)))) (xC (.int 0)))) (sPar [3, 2] 2 3 (xsC (xV 3) (xsC (xV 2) (xsN)))) (sN))
  (sSeq (sIf (tOf (x2 eqD (xCall f__law_turned (xsC (xV 2) (xsC (xV 3) (xsN)))) (xC (.int 0)))) (sSet [2, 2] 3 (xTup (xsC (x1 negD (x2 ixD (xV 2) (xC (.int 1)))) (xsC (x2 ixD (xV 2) (xC (.int 0))) (xsN))))) (sN))
  (sRet (xTup (xsC (xV 2) (xsC (xV 3) (xsN)))))))))
noncomputable def f__law_left_pair : List O → Option O := fnD 2 4 s__law_left_pair
-- def _law_side(_law_d): _law_d=0 _law_a=1 _law_b=2 _law_c=3
noncomputable def s__law_side : SS :=
  sSeq (sAsg [0, 0, 0] (xCall f__law_way (xsC (x2 ixD (xV 0) (xC (.int 0))) (xsC (x2 ixD (xV 0) (xC (.int 1))) (xsC (x2 ixD (xLst (xsC (xC (.int 3)) (xsC (xC (.int 3)) (xsC (xC (.int 3)) (xsC (xC (.int 100)) (xsC (xC (.int 2000)) (xsN))))))) (x2 modD (x2 ixD (xV 0) (xC (.int 4))) (xC (.int 5)))) (xsN))))) (gT 2 (gsC (gN 1) (gsC (gN 2) (gsN)))))
  (sSeq (sSet [0] 3 (x2 subD (x2 modD (x2 ixD (xV 0) (xC (.int 2))) (xC (.int 19))) (xC (.int 4))))
  (sSeq (sIf (tOf (x2 eqD (x2 modD (x2 ixD (xV 0) (xC (.int 3))) (xC (.int 4))) (xC (.int 1)))) (sSet [0] 3 (x2 subD (x2 modD (x2 ixD (xV 0) (xC (.int 2))) (xC (.int 1000001))) (xC (.int 300000)))) (sN))
  (sSeq (sIf (tOf (x2 eqD (x2 modD (x2 ixD (xV 0) (xC (.int 3))) (xC (.int 4))) (xC (.int 2)))) (sSet [1, 0, 2, 0] 3 (x2 addD (x2 mulD (xV 1) (x2 subD (x2 modD (x2 ixD (xV 0) (xC (.int 2))) (xC (.int 9))) (xC (.int 4)))) (x2 mulD (xV 2) (x2 subD (x2 modD (x2 fdivD (x2 ixD (xV 0) (xC (.int 2))) (xC (.int 9))) (xC (.int 9))) (xC (.int 4)))))) (sN))
  (sSeq (sIf (tOf (x2 eqD (x2 modD (x2 fdivD (x2 ixD (xV 0) (xC (.int 4))) (xC (.int 5))) (xC (.int 12))) (xC (.int 1)))) (sRet (xTup (xsC (x2 subD (x2 addD (x2 mulD (xC (.int 997)) (xV 1)) (x2 modD (x2 ixD (xV 0) (xC (.int 0))) (xC (.int 5)))) (xC (.int 2))) (xsC (x2 subD (x2 addD (x2 mulD (xC (.int 997)) (xV 2)) (x2 modD (x2 ixD (xV 0) (xC (.int 1))) (xC (.int 5)))) (xC (.int 2))) (xsC (x2 addD (x2 mulD (xC (.int 997)) (xV 3)) (x2 modD (x2 ixD (xV 0) (xC (.int 3))) (xC (.int 900)))) (xsN)))))) (sN))
  (sRet (xTup (xsC (xV 1) (xsC (xV 2) (xsC (xV 3) (xsN))))))))))
noncomputable def f__law_side : List O → Option O := fnD 1 4 s__law_side
-- def _law_groups(_law_some, _law_many_here): _law_some=0 _law_many_here=1 _law_found=2 _law_k=3 _law_d=4 _law_one=5 _law_other=6 _law_x=7 _law_y=8
noncomputable def b1__law_groups : SS :=
  sSeq (sSet [0] 4 (xSl (xV 0) (pI (x2 mulD (xC (.int 11)) (xV 3))) pN))
  (sIf (tOf (x2 eqD (x2 modD (x2 ixD (xV 4) (xC (.int 10))) (xC (.int 4))) (xC (.int 1)))) (sApp [4] 2 (xLst (xsC (xCall f__law_side (xsC (xV 4) (xsN))) (xsN)))) (sIf (tOf (x2 eqD (x2 modD (x2 ixD (xV 4) (xC (.int 10))) (xC (.int 4))) (xC (.int 2)))) (sApp [4, 4] 2 (xLst (xsC (xCall f__law_side (xsC (xV 4) (xsN))) (xsC (xCall f__law_side (xsC (xSl (xV 4) (pI (xC (.int 5))) pN) (xsN))) (xsN))))) (sSeq (sAsg [4] (xCall f__law_left_pair (xsC (xV 4) (xsC (xC (.int 3)) (xsN)))) (gT 2 (gsC (gN 5) (gsC (gN 6) (gsN)))))
  (sSeq (sPar [4, 4] 7 8 (xsC (x2 subD (x2 modD (x2 ixD (xV 4) (xC (.int 5))) (xC (.int 13))) (xC (.int 6))) (xsC (x2 subD (x2 modD (x2 ixD (xV 4) (xC (.int 6))) (xC (.int 13))) (xC (.int 6))) (xsN))))
  (sSeq (sApp [5, 5, 5, 8, 5, 7] 2 (xLst (xsC (xTup (xsC (x1 negD (x2 ixD (xV 5) (xC (.int 1)))) (xsC (x2 ixD (xV 5) (xC (.int 0))) (xsC (x2 subD (x2 mulD (x2 ixD (xV 5) (xC (.int 0))) (xV 8)) (x2 mulD (x2 ixD (xV 5) (xC (.int 1))) (xV 7))) (xsN))))) (xsN))))
  (sAppAt 2 (x1 negD (xC (.int 1))) (xTup (xsC (x2 ixD (xV 6) (xC (.int 1))) (xsC (x1 negD (x2 ixD (xV 6) (xC (.int 0)))) (xsC (x2 subD (x2 mulD (x2 ixD (xV 6) (xC (.int 1))) (xV 7)) (x2 mulD (x2 ixD (xV 6) (xC (.int 0))) (xV 8))) (xsN)))))))))))
noncomputable def s__law_groups : SS :=
  sSeq (sSet [] 2 (xLst (xsN)))
  (sSeq (sFor [] (itR1 (xV 1)) (gN 3) (b1__law_groups))
  (sSeq (sIf (Dv.tAnd (tOf (x2 gtD (xV 1) (xC (.int 1)))) (tOf (x2 eqD (x2 modD (x2 ixD (xV 0) (xC (.int 0))) (xC (.int 5))) (xC (.int 1))))) (sSetIxC 2 (x2 modD (x2 ixD (xV 0) (xC (.int 1))) (xV 1)) (xF listE (xsC (x2 ixD (xV 2) (x2 modD (x2 ixD (xV 0) (xC (.int 2))) (xV 1))) (xsN)))) (sN))
  (sRetV 2)))
noncomputable def f__law_groups : List O → Option O := fnD 2 9 s__law_groups
-- def _law_has(_law_sides, _law_place): _law_sides=0 _law_place=1 _law_x=2 _law_y=3 _law_w=4 _law_a=5 _law_b=6 _law_c=7
noncomputable def s__law_has : SS :=
  sSeq (sAsg [1] (xV 1) (gT 3 (gsC (gN 2) (gsC (gN 3) (gsC (gN 4) (gsN))))))
  (sRet (xF allD (xsC (xLc [0, 2, 3, 4] [5, 6, 7] (itL (xV 0)) (gT 3 (gsC (gN 5) (gsC (gN 6) (gsC (gN 7) (gsN))))) (tY) (x2 leD (x2 addD (x2 mulD (xV 5) (xV 2)) (x2 mulD (xV 6) (xV 3))) (x2 mulD (xV 7) (xV 4)))) (xsN))))
noncomputable def f__law_has : List O → Option O := fnD 2 8 s__law_has
-- def _law_doubts(_law_groups_here, _law_place): _law_groups_here=0 _law_place=1 _law_at=2 _law_group=3
noncomputable def s__law_doubts : SS :=
  sRet (xLc [0, 1] [2, 3] (itEn (xV 0)) (gT 2 (gsC (gN 2) (gsC (gN 3) (gsN)))) (Dv.tNot (tOf (xCall f__law_has (xsC (xV 3) (xsC (xV 1) (xsN)))))) (xV 2))
noncomputable def f__law_doubts : List O → Option O := fnD 2 4 s__law_doubts
-- def _law_low(_law_one, _law_other): _law_one=0 _law_other=1
noncomputable def c1__law_low : ST :=
  tOf (x2 gtD (xV 1) (xC (.int 0)))
noncomputable def b1__law_low : SS :=
  sPar [1, 0, 1] 0 1 (xsC (xV 1) (xsC (x2 modD (xV 0) (xV 1)) (xsN)))
noncomputable def s__law_low : SS :=
  sSeq (sSet [0] 0 (xF absD (xsC (xV 0) (xsN))))
  (sSeq (sSet [1] 1 (xF absD (xsC (xV 1) (xsN))))
  (sSeq (sWhl (c1__law_low) (b1__law_low))
  (sRetV 0)))
noncomputable def f__law_low : List O → Option O := fnD 2 2 s__law_low
-- def _law_spot_of(_law_x, _law_y, _law_w): _law_x=0 _law_y=1 _law_w=2 _law_by=3
noncomputable def s__law_spot_of : SS :=
  sSeq (sIf (tOf (x2 ltD (xV 2) (xC (.int 0)))) (sPar3 [0, 1, 2] 0 1 2 (xsC (x1 negD (xV 0)) (xsC (x1 negD (xV 1)) (xsC (x1 negD (xV 2)) (xsN))))) (sN))
  (sSeq (sSet [0, 1, 2] 3 (xCall f__law_low (xsC (xCall f__law_low (xsC (xV 0) (xsC (xV 1) (xsN)))) (xsC (xV 2) (xsN)))))
  (sRet (xTup (xsC (x2 fdivD (xV 0) (xV 3)) (xsC (x2 fdivD (xV 1) (xV 3)) (xsC (x2 fdivD (xV 2) (xV 3)) (xsN)))))))
noncomputable def f__law_spot_of : List O → Option O := fnD 3 4 s__law_spot_of
-- def _law_feet(_law_sides): _law_sides=0 _law_a=1 _law_b=2 _law_c=3
noncomputable def s__law_feet : SS :=
  sRet (xLc [0] [1, 2, 3] (itL (xV 0)) (gT 3 (gsC (gN 1) (gsC (gN 2) (gsC (gN 3) (gsN))))) (tY) (xCall f__law_spot_of (xsC (x2 mulD (xV 1) (xV 3)) (xsC (x2 mulD (xV 2) (xV 3)) (xsC (x2 addD (x2 mulD (xV 1) (xV 1)) (x2 mulD (xV 2) (xV 2))) (xsN))))))
noncomputable def f__law_feet : List O → Option O := fnD 1 4 s__law_feet
-- def _law_meet(_law_one, _law_other): _law_one=0 _law_other=1 _law_by=2
noncomputable def s__law_meet : SS :=
  sSeq (sSet [0, 1, 0, 1] 2 (x2 subD (x2 mulD (x2 ixD (xV 0) (xC (.int 0))) (x2 ixD (xV 1) (xC (.int 1)))) (x2 mulD (x2 ixD (xV 0) (xC (.int 1))) (x2 ixD (xV 1) (xC (.int 0))))))
  (sSeq (sIf (tOf (x2 eqD (xV 2) (xC (.int 0)))) (sRet (xC .non)) (sN))
  (sRet (xCall f__law_spot_of (xsC (x2 subD (x2 mulD (x2 ixD (xV 0) (xC (.int 2))) (x2 ixD (xV 1) (xC (.int 1)))) (x2 mulD (x2 ixD (xV 1) (xC (.int 2))) (x2 ixD (xV 0) (xC (.int 1))))) (xsC (x2 subD (x2 mulD (x2 ixD (xV 0) (xC (.int 0))) (x2 ixD (xV 1) (xC (.int 2)))) (x2 mulD (x2 ixD (xV 1) (xC (.int 0))) (x2 ixD (xV 0) (xC (.int 2))))) (xsC (xV 2) (xsN)))))))
noncomputable def f__law_meet : List O → Option O := fnD 2 3 s__law_meet
-- def _law_least_doubts(_law_groups_here): _law_groups_here=0 _law_sides=1 _law_group=2 _law_places=3 _law_at=4 _law_one=5 _law_other=6 _law_rows=7 _law_size=8 _law_found=9 _law_row=10 _law_place=11
noncomputable def b1__law_least_doubts : SS :=
  sSet [1, 2] 1 (x2 addD (xV 1) (xV 2))
noncomputable def b2__law_least_doubts : SS :=
  sIf (tOf (x2 neD (xCall f__law_turned (xsC (xV 5) (xsC (xV 6) (xsN)))) (xC (.int 0)))) (sApp [5, 6] 3 (xCall f__law_meet (xsC (xV 5) (xsC (xV 6) (xsN))))) (sN)
noncomputable def b3__law_least_doubts : SS :=
  sFor [1] (itL (xSl (xV 1) (pI (x2 addD (xV 4) (xC (.int 1)))) pN)) (gN 6) (b2__law_least_doubts)
noncomputable def b4__law_least_doubts : SS :=
  sIf (Dv.tAnd (tOf (x2 eqD (xF lenD' (xsC (xV 10) (xsN))) (xV 8))) (tOf (x2 notInD (xV 10) (xV 9)))) (sApp [10] 9 (xV 10)) (sN)
noncomputable def s__law_least_doubts : SS :=
  sSeq (sSet [] 1 (xLst (xsN)))
  (sSeq (sFor [0] (itL (xV 0)) (gN 2) (b1__law_least_doubts))
  (sSeq (sSet [1] 3 (x2 addD (xLst (xsC (xTup (xsC (xC (.int 0)) (xsC (xC (.int 0)) (xsC (xC (.int 1)) (xsN))))) (xsN))) (xCall f__law_feet (xsC (xV 1) (xsN)))))
  (sSeq (sFor [1] (itEn (xV 1)) (gT 2 (gsC (gN 4) (gsC (gN 5) (gsN)))) (b3__law_least_doubts))
  (sSeq (sSet [3, 0] 7 (xF sortL (xsC (xLc [3, 0] [11] (itL (xV 3)) (gN 11) (tY) (xCall f__law_doubts (xsC (xV 0) (xsC (xV 11) (xsN))))) (xsN))))
  (sSeq (sSet [7] 8 (xF minS (xsC (xLc [7] [10] (itL (xV 7)) (gN 10) (tY) (xF lenD' (xsC (xV 10) (xsN)))) (xsN))))
  (sSeq (sSet [] 9 (xLst (xsN)))
  (sSeq (sFor [7] (itL (xV 7)) (gN 10) (b4__law_least_doubts))
  (sRetV 9))))))))
noncomputable def f__law_least_doubts : List O → Option O := fnD 1 12 s__law_least_doubts
-- def _law_many(_law_one, _law_two, _law_few, _law_most): _law_one=0 _law_two=1 _law_few=2 _law_most=3
noncomputable def s__law_many : SS :=
  sSeq (sIf (tOf (x2 eqD (x2 modD (xV 1) (xC (.int 8))) (xC (.int 1)))) (sRet (x2 modD (xV 0) (x2 addD (xV 3) (xC (.int 1))))) (sN))
  (sRet (x2 modD (xV 0) (x2 addD (xV 2) (xC (.int 1)))))
noncomputable def f__law_many : List O → Option O := fnD 4 4 s__law_many
-- def _law_same(_law_told, _law_due): _law_told=0 _law_due=1 _law_one=2 _law_other=3
noncomputable def s__law_same (r : List O → Option O) : SS :=
  sSeq (sIf (Dv.tOr (tOf (x2 neD (x1 (isiD .bool) (xV 0)) (x1 (isiD .bool) (xV 1)))) (tOf (x2 neD (x1 (isiD .int) (xV 0)) (x1 (isiD .int) (xV 1))))) (sRet (xC (.bl false))) (sN))
  (sSeq (sIf (Dv.tOr (tOf (x2 neD (x1 (isiD .list) (xV 0)) (x1 (isiD .list) (xV 1)))) (tOf (x2 neD (x1 (isiD .tuple) (xV 0)) (x1 (isiD .tuple) (xV 1))))) (sRet (xC (.bl false))) (sN))
  (sSeq (sIf (Dv.tAnd (Dv.tNot (tOf (x1 (isiD .list) (xV 1)))) (Dv.tNot (tOf (x1 (isiD .tuple) (xV 1))))) (sRet (xAnd (x2 eqD (x1 (isiD .str) (xV 0)) (x1 (isiD .str) (xV 1))) (x2 eqD (xV 0) (xV 1)))) (sN))
  (sRet (xAnd (x2 eqD (xF lenD' (xsC (xV 0) (xsN))) (xF lenD' (xsC (xV 1) (xsN)))) (xF allD (xsC (xLc [0, 1] [2, 3] (itZ (xV 0) (xV 1)) (gT 2 (gsC (gN 2) (gsC (gN 3) (gsN)))) (tY) (xCall r (xsC (xV 2) (xsC (xV 3) (xsN))))) (xsN)))))))
noncomputable def f__law_same : Nat → List O → Option O
  | 0 => fun _ => none
  | n + 1 => fnD 2 4 (s__law_same (f__law_same n))
-- def all_sides(groups): groups=0 found=1 group=2
noncomputable def b1_all_sides : SS :=
  sExt 1 (xV 2)
noncomputable def s_all_sides : SS :=
  sSeq (sSet [] 1 (xLst (xsN)))
  (sSeq (sFor [0] (itL (xV 0)) (gN 2) (b1_all_sides))
  (sRetV 1))
noncomputable def f_all_sides : List O → Option O := fnD 1 3 s_all_sides
-- def measure(one, other): one=0 other=1
noncomputable def c1_measure : ST :=
  tOf (x2 gtD (xV 1) (xC (.int 0)))
noncomputable def b1_measure : SS :=
  sPar [1, 0, 1] 0 1 (xsC (xV 1) (xsC (x2 modD (xV 0) (xV 1)) (xsN)))
noncomputable def s_measure : SS :=
  sSeq (sSet [0] 0 (xF absD (xsC (xV 0) (xsN))))
  (sSeq (sSet [1] 1 (xF absD (xsC (xV 1) (xsN))))
  (sSeq (sWhl (c1_measure) (b1_measure))
  (sRetV 0)))
noncomputable def f_measure : List O → Option O := fnD 2 2 s_measure
-- def spot(x, y, w): x=0 y=1 w=2 by=3
noncomputable def s_spot : SS :=
  sSeq (sIf (tOf (x2 ltD (xV 2) (xC (.int 0)))) (sPar3 [0, 1, 2] 0 1 2 (xsC (x1 negD (xV 0)) (xsC (x1 negD (xV 1)) (xsC (x1 negD (xV 2)) (xsN))))) (sN))
  (sSeq (sSet [0, 1, 2] 3 (xCall f_measure (xsC (xCall f_measure (xsC (xV 0) (xsC (xV 1) (xsN)))) (xsC (xV 2) (xsN)))))
  (sRet (xTup (xsC (x2 fdivD (xV 0) (xV 3)) (xsC (x2 fdivD (xV 1) (xV 3)) (xsC (x2 fdivD (xV 2) (xV 3)) (xsN)))))))
noncomputable def f_spot : List O → Option O := fnD 3 4 s_spot
-- def turn(one, other): one=0 other=1
noncomputable def s_turn : SS :=
  sRet (x2 subD (x2 mulD (x2 ixD (xV 0) (xC (.int 0))) (x2 ixD (xV 1) (xC (.int 1)))) (x2 mulD (x2 ixD (xV 0) (xC (.int 1))) (x2 ixD (xV 1) (xC (.int 0)))))
noncomputable def f_turn : List O → Option O := fnD 2 2 s_turn
-- def crossing(one, other): one=0 other=1 by=2 x=3 y=4
noncomputable def s_crossing : SS :=
  sSeq (sSet [0, 1] 2 (xCall f_turn (xsC (xV 0) (xsC (xV 1) (xsN)))))
  (sSeq (sIf (tOf (x2 eqD (xV 2) (xC (.int 0)))) (sRet (xC .non)) (sN))
  (sSeq (sSet [0, 1, 1, 0] 3 (x2 subD (x2 mulD (x2 ixD (xV 0) (xC (.int 2))) (x2 ixD (xV 1) (xC (.int 1)))) (x2 mulD (x2 ixD (xV 1) (xC (.int 2))) (x2 ixD (xV 0) (xC (.int 1))))))
  (sSeq (sSet [0, 1, 1, 0] 4 (x2 subD (x2 mulD (x2 ixD (xV 0) (xC (.int 0))) (x2 ixD (xV 1) (xC (.int 2)))) (x2 mulD (x2 ixD (xV 1) (xC (.int 0))) (x2 ixD (xV 0) (xC (.int 2))))))
  (sRet (xCall f_spot (xsC (xV 3) (xsC (xV 4) (xsC (xV 2) (xsN)))))))))
noncomputable def f_crossing : List O → Option O := fnD 2 5 s_crossing
-- def crossings(sides): sides=0 found=1 at=2 one=3 other=4 place=5
noncomputable def b1_crossings : SS :=
  sSeq (sSet [3, 4] 5 (xCall f_crossing (xsC (xV 3) (xsC (xV 4) (xsN)))))
  (sIf (tOf (x2 notN2 (xV 5) (xC .non))) (sDput 1 (xV 5) (xC (.bl true))) (sN))
noncomputable def b2_crossings : SS :=
  sFor [0] (itL (xSl (xV 0) (pI (x2 addD (xV 2) (xC (.int 1)))) pN)) (gN 4) (b1_crossings)
noncomputable def s_crossings : SS :=
  sSeq (sSet [] 1 (xDnew))
  (sSeq (sFor [0] (itEn (xV 0)) (gT 2 (gsC (gN 2) (gsC (gN 3) (gsN)))) (b2_crossings))
  (sRet (xF listE (xsC (xV 1) (xsN)))))
noncomputable def f_crossings : List O → Option O := fnD 1 6 s_crossings
-- def foot(side): side=0
noncomputable def s_foot : SS :=
  sRet (xCall f_spot (xsC (x2 mulD (x2 ixD (xV 0) (xC (.int 0))) (x2 ixD (xV 0) (xC (.int 2)))) (xsC (x2 mulD (x2 ixD (xV 0) (xC (.int 1))) (x2 ixD (xV 0) (xC (.int 2)))) (xsC (x2 addD (x2 mulD (x2 ixD (xV 0) (xC (.int 0))) (x2 ixD (xV 0) (xC (.int 0)))) (x2 mulD (x2 ixD (xV 0) (xC (.int 1))) (x2 ixD (xV 0) (xC (.int 1))))) (xsN)))))
noncomputable def f_foot : List O → Option O := fnD 1 1 s_foot
-- def candidates(groups): groups=0 sides=1 side=2
noncomputable def s_candidates : SS :=
  sSeq (sSet [0] 1 (xCall f_all_sides (xsC (xV 0) (xsN))))
  (sRet (x2 addD (x2 addD (xLst (xsC (xTup (xsC (xC (.int 0)) (xsC (xC (.int 0)) (xsC (xC (.int 1)) (xsN))))) (xsN))) (xCall f_crossings (xsC (xV 1) (xsN)))) (xLc [1] [2] (itL (xV 1)) (gN 2) (tY) (xCall f_foot (xsC (xV 2) (xsN))))))
noncomputable def f_candidates : List O → Option O := fnD 1 3 s_candidates
-- def along(side, place): side=0 place=1
noncomputable def s_along : SS :=
  sRet (x2 addD (x2 mulD (x2 ixD (xV 0) (xC (.int 0))) (x2 ixD (xV 1) (xC (.int 0)))) (x2 mulD (x2 ixD (xV 0) (xC (.int 1))) (x2 ixD (xV 1) (xC (.int 1)))))
noncomputable def f_along : List O → Option O := fnD 2 2 s_along
-- def holds(side, place): side=0 place=1
noncomputable def s_holds : SS :=
  sRet (x2 leD (xCall f_along (xsC (xV 0) (xsC (xV 1) (xsN)))) (x2 mulD (x2 ixD (xV 0) (xC (.int 2))) (x2 ixD (xV 1) (xC (.int 2)))))
noncomputable def f_holds : List O → Option O := fnD 2 2 s_holds
-- def in_all(sides, place): sides=0 place=1 side=2
noncomputable def b1_in_all : SS :=
  sIf (Dv.tNot (tOf (xCall f_holds (xsC (xV 2) (xsC (xV 1) (xsN)))))) (sRet (xC (.bl false))) (sN)
noncomputable def s_in_all : SS :=
  sSeq (sFor [0] (itL (xV 0)) (gN 2) (b1_in_all))
  (sRet (xC (.bl true)))
noncomputable def f_in_all : List O → Option O := fnD 2 3 s_in_all
-- def doubted(groups, place): groups=0 place=1 at=2 group=3
noncomputable def s_doubted : SS :=
  sRet (xLc [0, 1] [2, 3] (itEn (xV 0)) (gT 2 (gsC (gN 2) (gsC (gN 3) (gsN)))) (Dv.tNot (tOf (xCall f_in_all (xsC (xV 3) (xsC (xV 1) (xsN)))))) (xV 2))
noncomputable def f_doubted : List O → Option O := fnD 2 4 s_doubted
-- def tried(groups): groups=0 rows=1 least=2 place=3 row=4
noncomputable def s_tried : SS :=
  sSeq (sSet [0] 1 (xLc [0] [3] (itL (xCall f_candidates (xsC (xV 0) (xsN)))) (gN 3) (tY) (xTup (xsC (xV 3) (xsC (xCall f_doubted (xsC (xV 0) (xsC (xV 3) (xsN)))) (xsN))))))
  (sSeq (sSet [1] 2 (xF minS (xsC (xLc [1] [3, 4] (itL (xV 1)) (gT 2 (gsC (gN 3) (gsC (gN 4) (gsN)))) (tY) (xF lenD' (xsC (xV 4) (xsN)))) (xsN))))
  (sRetPick [1, 2] [3, 4] 1 3 4 (tOf (x2 eqD (xF lenD' (xsC (xV 4) (xsN))) (xV 2)))))
noncomputable def f_tried : List O → Option O := fnD 1 5 s_tried
-- def choices(groups): groups=0 found=1 place=2 row=3
noncomputable def b1_choices : SS :=
  sIf (tOf (x2 notInD (xV 3) (xV 1))) (sAppMv 1 3) (sN)
noncomputable def s_choices : SS :=
  sSeq (sSet [] 1 (xLst (xsN)))
  (sSeq (sForM 2 3 (xCall f_tried (xsC (xV 0) (xsN))) (b1_choices))
  (sRetSortM 1))
noncomputable def f_choices : List O → Option O := fnD 1 4 s_choices
-- def law(_law_script): _law_script=0 _law_some=1 _law_many_here=2 _law_groups_here=3 _law_due=4 _law_handed=5 _law_again=6 _law_found=7 _law_row=8 _law_group=9
noncomputable def b1_law : SS :=
  sSeq (sSet [5] 7 (xCall f_choices (xsC (xV 5) (xsN))))
  (sSeq (sIf (Dv.tOr (Dv.tNot (tOf (xCall (f__law_same 12) (xsC (xV 7) (xsC (xV 4) (xsN)))))) (tOf (x2 neD (xV 5) (xV 3)))) (sRet (xC (.bl false))) (sN))
  (sSeq (sForApp 7 8 0)
  (sRevM 7)))
noncomputable def s_law : SS :=
  sSeq (sSet [0] 1 (xCall f__law_draws (xsC (xV 0) (xsC (xC (.int 270)) (xsN)))))
  (sSeq (sSet [1, 1] 2 (xCall f__law_many (xsC (x2 ixD (xV 1) (xC (.int 0))) (xsC (x2 ixD (xV 1) (xC (.int 1))) (xsC (xC (.int 6)) (xsC (xC (.int 12)) (xsN)))))))
  (sSeq (sIf (tOf (x2 eqD (x2 modD (x2 fdivD (x2 ixD (xV 1) (xC (.int 1))) (xC (.int 8))) (xC (.int 24))) (xC (.int 1)))) (sSet [1] 2 (x2 addD (xC (.int 13)) (x2 modD (x2 ixD (xV 1) (xC (.int 0))) (xC (.int 12))))) (sN))
  (sSeq (sSet [1, 2] 3 (xCall f__law_groups (xsC (xSl (xV 1) (pI (xC (.int 2))) pN) (xsC (xV 2) (xsN)))))
  (sSeq (sSet [3] 4 (xCall f__law_least_doubts (xsC (xV 3) (xsN))))
  (sSeq (sSet [3] 5 (xLc [3] [9] (itL (xV 3)) (gN 9) (tY) (xF listE (xsC (xV 9) (xsN)))))
  (sSeq (sFor [] (itR1 (xC (.int 2))) (gN 6) (b1_law))
  (sRet (xC (.bl true)))))))))
noncomputable def f_law : List O → Option O := fnD 1 10 s_law
-- (not reached)
-- def part(top, bottom): top=0 bottom=1 by=2
-- (not reached)
-- def plus(one, other): one=0 other=1
-- (not reached)
-- def times(one, other): one=0 other=1
-- (not reached)
-- def below(one, other): one=0 other=1
-- (not reached)
-- def ahead(one, other): one=0 other=1 here=2 there=3
-- (not reached)
-- def in_order(spots): spots=0 found=1 one=2 at=3
-- (not reached)
-- def plain(direction): direction=0 by=1
-- (not reached)
-- def plain_side(side): side=0 by=1
-- (not reached)
-- def on_edge(side, place): side=0 place=1
-- (not reached)
-- def pushed(side, x, y): side=0 x=1 y=2
-- (not reached)
-- def bearing_sides(place, one, other): place=0 one=1 other=2 x=3 y=4 first=5 second=6
-- (not reached)
-- def range_side(left, right): left=0 right=1 x=2 y=3
-- (not reached)
-- def corners(sides): sides=0 place=1
-- (not reached)
-- def some_spot(sides): sides=0 place=1 side=2
-- (not reached)
-- def is_way(sides, direction): sides=0 direction=1 side=2
-- (not reached)
-- def ways(sides): sides=0 found=1 side=2 direction=3
-- (not reached)
-- def closed(sides): sides=0
-- (not reached)
-- def threefold(one, other, third): one=0 other=1 third=2 first=3 second=4
-- (not reached)
-- def ring(sides): sides=0 row=1 found=2 place=3 at=4
-- (not reached)
-- def area(sides): sides=0 row=1 found=2 one=3 other=4
-- (not reached)
-- def two_weights(one, other): one=0 other=1 weights=2 by=3
-- (not reached)
-- def three_weights(one, other, third): one=0 other=1 third=2 weights=3 by=4
-- (not reached)
-- def clash_of_two(sides): sides=0 at=1 one=2 to=3 weights=4
-- (not reached)
-- def third_of(sides, at, to): sides=0 at=1 to=2 third=3 weights=4 total=5
-- (not reached)
-- def clash(sides): sides=0 found=1 at=2 to=3
-- (not reached)
-- def open_way(sides, direction): sides=0 direction=1 some=2 one=3 side=4
-- (not reached)
-- def pair_far(sides, direction, at, to): sides=0 direction=1 at=2 to=3 one=4 other=5 place=6 first=7 second=8 weights=9 number=10 weight=11
-- (not reached)
-- def lone_far(sides, direction): sides=0 direction=1 at=2 side=3 weight=4
-- (not reached)
-- def far(sides, direction): sides=0 direction=1 at=2 to=3 told=4
-- (not reached)
-- def reach(sides, direction): sides=0 direction=1 found=2 way=3
-- (not reached)
-- def trusted(groups): groups=0
-- (not reached)
-- def stretch(one, other): one=0 other=1
-- (not reached)
-- def is_bank(corners): corners=0 many=1 at=2 to=3 third=4 lead=5
-- (not reached)
-- def bank_side(one, other): one=0 other=1 x=2 y=3
-- (not reached)
-- def bank_sides(corners): corners=0 many=1 at=2
-- (not reached)
-- def all_beyond(direction, corners, top): direction=0 corners=1 top=2 x=3 y=4
-- (not reached)
-- def apart(sides, corners): sides=0 corners=1 at=2 side=3 a=4 b=5 c=6 told=7
-- (not reached)
-- def far_out(sides, side, way): sides=0 side=1 way=2 x=3 y=4 w=5 step=6 turns=7
-- (not reached)
-- def outside(sides, side, told): sides=0 side=1 told=2
-- (not reached)
-- def bank_word(sides, corners): sides=0 corners=1 found=2 rows=3 both=4 shown=5 side=6 told=7 place=8
-- (not reached)
-- def on_bank(corners, place): corners=0 place=1
-- (not reached)
-- def rising(rows, many): rows=0 many=1 last=2 number=3 weight=4
-- (not reached)
-- def good_clash(sides, paper): sides=0 paper=1 total=2 number=3 weight=4 one=5 two=6
-- (not reached)
-- def shown(sides, direction, weights): sides=0 direction=1 weights=2 total=3 number=4 weight=5 one=6 two=7
-- (not reached)
-- def in_water(sides, place): sides=0 place=1
-- (not reached)
-- def good_far(sides, direction, place, weights): sides=0 direction=1 place=2 weights=3 top=4
-- (not reached)
-- def good_reach(sides, direction, paper): sides=0 direction=1 paper=2
-- (not reached)
-- def good_apart(sides, corners, direction, weights): sides=0 corners=1 direction=2 weights=3 top=4 corner=5
-- (not reached)
-- def good_within(sides, corners, papers): sides=0 corners=1 papers=2 rows=3 side=4 weights=5 top=6
-- (not reached)
-- def good_bank(sides, corners, paper): sides=0 corners=1 paper=2
-- (not reached)
-- def good_trust(groups, paper): groups=0 paper=1
-- (not reached)
-- def _law_low_weights(_law_weights): _law_weights=0 _law_number=1 _law_weight=2
-- (not reached)
-- def _law_tight(_law_some, _law_sides_here): _law_some=0 _law_sides_here=1 _law_a=2 _law_b=3 _law_c=4
-- (not reached)
-- def _law_sides(_law_some, _law_many_here): _law_some=0 _law_many_here=1 _law_rows=2 _law_x=3 _law_y=4 _law_k=5 _law_a=6 _law_b=7 _law_c=8
-- (not reached)
-- def _law_bank(_law_d, _law_wide): _law_d=0 _law_wide=1 _law_one=2 _law_other=3 _law_x=4 _law_y=5 _law_p=6 _law_q=7 _law_leads=8 _law_turned_here=9 _law_here=10 _law_row=11 _law_found=12 _law_dx=13 _law_dy=14 _law_at=15
-- (not reached)
-- def _law_bank_rows(_law_places): _law_places=0 _law_found=1 _law_at=2 _law_x=3 _law_y=4 _law_p=5 _law_q=6 _law_by=7
-- (not reached)
-- def _law_whole(_law_found): _law_found=0
-- (not reached)
-- def _law_numbers(_law_found, _law_many_here): _law_found=0 _law_many_here=1 _law_one=2
-- (not reached)
-- def _law_is_spot(_law_found): _law_found=0
-- (not reached)
-- def _law_is_clash(_law_sides_here, _law_paper): _law_sides_here=0 _law_paper=1 _law_last=2 _law_total=3 _law_pair=4 _law_a=5 _law_b=6 _law_c=7
-- (not reached)
-- def _law_summed(_law_one, _law_weight, _law_number): _law_one=0 _law_weight=1 _law_number=2
-- (not reached)
-- def _law_bound(_law_sides_here, _law_direction, _law_weights): _law_sides_here=0 _law_direction=1 _law_weights=2 _law_last=3 _law_total=4 _law_pair=5 _law_one=6 _law_number=7
-- (not reached)
-- def _law_corners_of(_law_sides_here): _law_sides_here=0 _law_found=1 _law_at=2 _law_one=3 _law_other=4 _law_place=5
-- (not reached)
-- def _law_any_place(_law_sides_here): _law_sides_here=0 _law_place=1
-- (not reached)
-- def _law_is_reach(_law_sides_here, _law_direction, _law_told): _law_sides_here=0 _law_direction=1 _law_told=2 _law_x=3 _law_y=4 _law_top=5 _law_w=6 _law_a=7 _law_b=8 _law_c=9
end Sm
end
section
set_option Elab.async false
set_option linter.all false
set_option maxRecDepth 100000
namespace Sm
open Dv
/-! gcd -/
def gcdZ (a b : Int) : Int := (Int.gcd a b : Int)
theorem gcd_while (k : Nat) : ∀ (n m : Nat), m ≤ k → sWhl (tOf (x2 gtD (xV 1) (xC (.int 0)))) (sPar [1, 0, 1] 0 1 (xsC (xV 1) (xsC (x2 modD (xV 0) (xV 1)) (xsN)))) [some (.int n), some (.int m)] = some (.nx [some (.int (Nat.gcd n m : Nat)), some (.int 0)]) := by
  induction k with
  | zero =>
    intro n m h
    have : m = 0 := by omega
    subst this
    rw [Nat.gcd_zero_right]
    exact sWhl_end rfl
  | succ k ih =>
    intro n m h
    by_cases h0 : m = 0
    · subst h0
      rw [Nat.gcd_zero_right]
      exact sWhl_end rfl
    · have hp : 0 < m := by omega
      have hp' : (0 : Int) < (m : Int) := by omega
      have hm : n % m ≤ k := by have := Nat.mod_lt n hp; omega
      refine sWhl_turn (τ' := [some (.int m), some (.int (n % m : Nat))]) ?_ ?_ ?_
      · simp only [Dv.get, Dv.xV, Dv.xC, Dv.frz, Dv.frzs, Dv.flat, Dv.flats, Dv.clean, Dv.cleans, Dv.frzSlot, Dv.frz1, Dv.frzAt, Dv.put, Dv.addD, Dv.subD, Dv.mulD, Dv.fdivD, Dv.modD, Dv.negD, Dv.x2, Dv.x1, Dv.xsN, Dv.xsC, Dv.xTup, Dv.xLst, Dv.xCall, Dv.asB, Dv.tOf, Dv.tNot, Dv.tAnd, Dv.tOr, Dv.xB, Dv.xIf, Dv.cmpI, Dv.ltD, Dv.leD, Dv.gtD, Dv.geD, Dv.xAnd, Dv.xOr, Dv.xNot, Dv.sN, Dv.sSeq, Dv.sSet, Dv.sRet, Dv.sRetV, Dv.sIf, Dv.sBk, Dv.sCt, Dv.gN, Dv.gsN, Dv.gsC, Dv.gT, Dv.fnD, Dv.ixD, Dv.slD, Dv.pN, Dv.pI, Dv.xSl, Dv.lenD', Dv.intD, Dv.maxD, Dv.minD, Dv.allD, Dv.anyD, Dv.allB, Dv.listD, Dv.xF, Dv.isiD, Dv.eqD, Dv.neD, Dv.isND, Dv.notND, Dv.isN2, Dv.notN2, Dv.sApp, Dv.itL, Dv.itR1, Dv.itR2, Dv.rngL, Dv.zipL, Dv.zipO, Dv.itZ, Dv.enuL, Dv.enuO, Dv.itEn, Dv.wipeD, Dv.keepD, Dv.tY, Dv.sAsg, Dv.sPar, Dv.sPar3, Dv.sAugI, Dv.sDrop, Dv.le_sLine, Dv.sh_non, Dv.sh_bl, Dv.sh_int, Dv.sh_tup, Dv.sh_lst, Dv.eqo_int, Dv.eqo_bl, Dv.eqo_tup, Dv.eqo_lst, Dv.eqos_nil, Dv.eqos_cons, List.all_cons, List.all_nil, Dv.beq_tt, Dv.beq_ff, Dv.beq_tf, Dv.beq_ft, List.getElem?_cons_zero, List.getElem?_cons_succ, List.getElem?_nil, List.set_cons_zero, List.set_cons_succ, List.set_nil, Option.bind_some, Option.bind_none, Option.map_some, Option.map_none, if_true, if_false, ↓reduceIte, decide_true, decide_false, Bool.false_eq_true, Bool.true_and, Bool.and_true, Bool.false_and, Bool.and_false, Bool.not_true, Bool.not_false, Bool.true_or, Bool.or_true, Bool.false_or, Bool.or_false, List.cons_append, List.nil_append, List.length_cons, List.length_nil, List.map_cons, List.map_nil, List.replicate_succ, List.replicate_zero, Nat.reduceAdd, Nat.reduceSub, Nat.reduceLT, Nat.reduceEqDiff, Nat.reduceLeDiff, Int.reduceAdd, Int.reduceSub, Int.reduceMul, Int.reduceNeg, Int.reduceLT, Int.reduceLE, Int.reduceEq, Int.reduceMod, Int.reduceDiv, Int.reduceToNat, Nat.add_zero, Nat.zero_add, List.contains_cons, List.contains_nil, Nat.reduceBEq, beq_self_eq_true, reduceCtorEq, and_true, true_and, and_false, false_and, not_true_eq_false, not_false_eq_true, hp']
      · have e : ((n : Int) % (m : Int)) = ((n % m : Nat) : Int) := by omega
        simp only [Dv.get, Dv.xV, Dv.xC, Dv.frz, Dv.frzs, Dv.flat, Dv.flats, Dv.clean, Dv.cleans, Dv.frzSlot, Dv.frz1, Dv.frzAt, Dv.put, Dv.addD, Dv.subD, Dv.mulD, Dv.fdivD, Dv.modD, Dv.negD, Dv.x2, Dv.x1, Dv.xsN, Dv.xsC, Dv.xTup, Dv.xLst, Dv.xCall, Dv.asB, Dv.tOf, Dv.tNot, Dv.tAnd, Dv.tOr, Dv.xB, Dv.xIf, Dv.cmpI, Dv.ltD, Dv.leD, Dv.gtD, Dv.geD, Dv.xAnd, Dv.xOr, Dv.xNot, Dv.sN, Dv.sSeq, Dv.sSet, Dv.sRet, Dv.sRetV, Dv.sIf, Dv.sBk, Dv.sCt, Dv.gN, Dv.gsN, Dv.gsC, Dv.gT, Dv.fnD, Dv.ixD, Dv.slD, Dv.pN, Dv.pI, Dv.xSl, Dv.lenD', Dv.intD, Dv.maxD, Dv.minD, Dv.allD, Dv.anyD, Dv.allB, Dv.listD, Dv.xF, Dv.isiD, Dv.eqD, Dv.neD, Dv.isND, Dv.notND, Dv.isN2, Dv.notN2, Dv.sApp, Dv.itL, Dv.itR1, Dv.itR2, Dv.rngL, Dv.zipL, Dv.zipO, Dv.itZ, Dv.enuL, Dv.enuO, Dv.itEn, Dv.wipeD, Dv.keepD, Dv.tY, Dv.sAsg, Dv.sPar, Dv.sPar3, Dv.sAugI, Dv.sDrop, Dv.le_sLine, Dv.sh_non, Dv.sh_bl, Dv.sh_int, Dv.sh_tup, Dv.sh_lst, Dv.eqo_int, Dv.eqo_bl, Dv.eqo_tup, Dv.eqo_lst, Dv.eqos_nil, Dv.eqos_cons, List.all_cons, List.all_nil, Dv.beq_tt, Dv.beq_ff, Dv.beq_tf, Dv.beq_ft, List.getElem?_cons_zero, List.getElem?_cons_succ, List.getElem?_nil, List.set_cons_zero, List.set_cons_succ, List.set_nil, Option.bind_some, Option.bind_none, Option.map_some, Option.map_none, if_true, if_false, ↓reduceIte, decide_true, decide_false, Bool.false_eq_true, Bool.true_and, Bool.and_true, Bool.false_and, Bool.and_false, Bool.not_true, Bool.not_false, Bool.true_or, Bool.or_true, Bool.false_or, Bool.or_false, List.cons_append, List.nil_append, List.length_cons, List.length_nil, List.map_cons, List.map_nil, List.replicate_succ, List.replicate_zero, Nat.reduceAdd, Nat.reduceSub, Nat.reduceLT, Nat.reduceEqDiff, Nat.reduceLeDiff, Int.reduceAdd, Int.reduceSub, Int.reduceMul, Int.reduceNeg, Int.reduceLT, Int.reduceLE, Int.reduceEq, Int.reduceMod, Int.reduceDiv, Int.reduceToNat, Nat.add_zero, Nat.zero_add, List.contains_cons, List.contains_nil, Nat.reduceBEq, beq_self_eq_true, reduceCtorEq, and_true, true_and, and_false, false_and, not_true_eq_false, not_false_eq_true, hp', e]
      · rw [ih m (n % m) hm, Nat.gcd_comm n m, Nat.gcd_rec m n, Nat.gcd_comm (n % m) m]
theorem abs_nat (a : Int) : (if a < 0 then -a else a) = (a.natAbs : Int) := by split <;> omega
end Sm
end
section
set_option Elab.async false
set_option linter.all false
set_option maxRecDepth 100000
namespace Sm
open Dv
theorem gcd_pos {a b : Int} (h : b ≠ 0) : 0 < gcdZ a b := by
  unfold gcdZ
  have := Int.gcd_pos_of_ne_zero_right a h
  omega
theorem gcd_dvd_l (a b : Int) : gcdZ a b ∣ a := Int.gcd_dvd_left ..
theorem gcd_dvd_r (a b : Int) : gcdZ a b ∣ b := Int.gcd_dvd_right ..
theorem gcd_le {a b : Int} (h : b ≠ 0) : (gcdZ a b).natAbs ≤ b.natAbs := by
  unfold gcdZ
  rw [Int.natAbs_natCast]
  exact Nat.le_of_dvd (by omega) (Int.natAbs_dvd_natAbs.mpr (Int.gcd_dvd_right ..))
theorem eq_of_mul {g a b : Int} (h : g ≠ 0) (e : g * a = g * b) : a = b := Int.eq_of_mul_eq_mul_left h e
end Sm
end
section
set_option Elab.async false
set_option linter.all false
set_option maxRecDepth 100000
namespace Sm
open Dv
/-! three numbers -/
abbrev gcd3 (x y w : Int) : Int := gcdZ (gcdZ x y) w
theorem gcdZ_mul {g : Int} (a b : Int) (h : 0 ≤ g) : gcdZ (g * a) (g * b) = g * gcdZ a b := by
  unfold gcdZ
  rw [Int.gcd_mul_left, Int.natCast_mul]
  have : (g.natAbs : Int) = g := by omega
  rw [this]
theorem gcd3_mul {g : Int} (x y w : Int) (h : 0 ≤ g) : gcd3 (g * x) (g * y) (g * w) = g * gcd3 x y w := by
  unfold gcd3
  rw [gcdZ_mul x y h, gcdZ_mul _ w h]
theorem gcdZ_pos {a b : Int} (h : a ≠ 0 ∨ b ≠ 0) : 0 < gcdZ a b := by
  rcases h with h | h
  · unfold gcdZ
    have := Int.gcd_pos_of_ne_zero_left b h
    omega
  · exact gcd_pos h
theorem gcd3_pos {x y w : Int} (h : x ≠ 0 ∨ y ≠ 0 ∨ w ≠ 0) : 0 < gcd3 x y w := by
  rcases h with h | h | h
  · exact gcdZ_pos (Or.inl (by have := gcdZ_pos (b := y) (Or.inl h); omega))
  · exact gcdZ_pos (Or.inl (by have := gcdZ_pos (a := x) (Or.inr h); omega))
  · exact gcd_pos h
theorem gcd3_dvd (x y w : Int) : gcd3 x y w ∣ x ∧ gcd3 x y w ∣ y ∧ gcd3 x y w ∣ w :=
  ⟨Int.dvd_trans (gcd_dvd_l _ w) (gcd_dvd_l x y), Int.dvd_trans (gcd_dvd_l _ w) (gcd_dvd_r x y), gcd_dvd_r _ w⟩
/-- x, y, w by their measure -/
theorem low3 {x y w : Int} (h : x ≠ 0 ∨ y ≠ 0 ∨ w ≠ 0) : ∃ x' y' w', x / gcd3 x y w = x' ∧ y / gcd3 x y w = y' ∧ w / gcd3 x y w = w' ∧ gcd3 x' y' w' = 1 ∧ x = gcd3 x y w * x' ∧ y = gcd3 x y w * y' ∧ w = gcd3 x y w * w' := by
  have g0 := gcd3_pos h
  obtain ⟨d1, d2, d3⟩ := gcd3_dvd x y w
  have h1 := Int.mul_ediv_cancel' d1
  have h2 := Int.mul_ediv_cancel' d2
  have h3 := Int.mul_ediv_cancel' d3
  refine ⟨_, _, _, rfl, rfl, rfl, ?_, h1.symm, h2.symm, h3.symm⟩
  have e := gcd3_mul (x / gcd3 x y w) (y / gcd3 x y w) (w / gcd3 x y w) (Int.le_of_lt g0)
  rw [h1, h2, h3] at e
  exact eq_of_mul (g := gcd3 x y w) (by omega) (by rw [Int.mul_one]; exact e.symm)
theorem le_of_fac {g x y : Int} (h : x = g * y) (g0 : 0 < g) : y.natAbs ≤ x.natAbs := by
  rw [h, Int.natAbs_mul]
  exact Nat.le_mul_of_pos_left _ (by omega)
/-- the measure is no greater than one of the three -/
theorem gcd3_le {x y w : Int} (h : w ≠ 0) : (gcd3 x y w).natAbs ≤ w.natAbs := gcd_le h
/-- a spot in lowest terms, of the place x/w, y/w -/
structure Spot (x y w x' y' w' : Int) : Prop where
  w1 : 1 ≤ w'
  g : gcd3 x' y' w' = 1
  ex : x' * w = w' * x
  ey : y' * w = w' * y
  /-- and so by a factor -/
  f : ∃ s : Int, s ≠ 0 ∧ x = s * x' ∧ y = s * y' ∧ w = s * w'
theorem spot_low {x y w : Int} (hw : w ≠ 0) : ∃ s x' y' w', s = (if w < 0 then -1 else 1) ∧ (s * x) / gcd3 (s * x) (s * y) (s * w) = x' ∧ (s * y) / gcd3 (s * x) (s * y) (s * w) = y' ∧ (s * w) / gcd3 (s * x) (s * y) (s * w) = w' ∧ Spot x y w x' y' w' ∧ 0 < gcd3 (s * x) (s * y) (s * w) ∧ (gcd3 (s * x) (s * y) (s * w)).natAbs ≤ w.natAbs ∧ x'.natAbs ≤ x.natAbs ∧ y'.natAbs ≤ y.natAbs ∧ w'.natAbs ≤ w.natAbs := by
  obtain ⟨s, hs⟩ : ∃ s : Int, s = (if w < 0 then -1 else 1) := ⟨_, rfl⟩
  have hs3 : s = 1 ∨ s = -1 := by rw [hs]; split <;> simp
  have hsw : 0 < s * w := by
    rw [hs]
    by_cases h : w < 0
    · rw [if_pos h]; omega
    · rw [if_neg h]; omega
  have bs : ∀ {x : Int}, (s * x).natAbs = x.natAbs := fun {x} => by rcases hs3 with h | h <;> rw [h] <;> omega
  have ss : s * s = 1 := by rcases hs3 with h | h <;> rw [h] <;> rfl
  obtain ⟨x', y', w', e1, e2, e3, hg, f1, f2, f3⟩ := low3 (x := s * x) (y := s * y) (w := s * w) (Or.inr (Or.inr (by omega)))
  have g0 := gcd3_pos (x := s * x) (y := s * y) (w := s * w) (Or.inr (Or.inr (by omega)))
  have gl := gcd3_le (x := s * x) (y := s * y) (w := s * w) (by omega)
  rw [bs] at gl
  refine ⟨s, x', y', w', hs, e1, e2, e3, ?_, g0, gl, ?_, ?_, ?_⟩
  · generalize gcd3 (s * x) (s * y) (s * w) = g at f1 f2 f3 g0
    have back : ∀ {a b : Int}, s * a = g * b → a = (s * g) * b := fun {a b} h => by
      rw [Int.mul_assoc, ← h, ← Int.mul_assoc, ss, Int.one_mul]
    have sg : s * g ≠ 0 := Int.mul_ne_zero (by omega) (by omega)
    refine ⟨?_, hg, ?_, ?_, s * g, sg, back f1, back f2, back f3⟩
    · rcases Int.lt_or_le 0 w' with h | h
      · omega
      · have := Int.mul_nonpos_of_nonneg_of_nonpos (Int.le_of_lt g0) h
        omega
    · rw [back f1, back f3]
      simp only [Int.mul_comm, Int.mul_left_comm]
    · rw [back f2, back f3]
      simp only [Int.mul_comm, Int.mul_left_comm]
  · have := le_of_fac f1 g0; rwa [bs] at this
  · have := le_of_fac f2 g0; rwa [bs] at this
  · have := le_of_fac f3 g0; rwa [bs] at this
end Sm
end
section
set_option Elab.async false
set_option linter.all false
set_option maxRecDepth 100000
namespace Sm
open Dv
theorem measure_eq (a b : Int) : f_measure [.int a, .int b] = some (.int (gcdZ a b)) := by
  have h := gcd_while b.natAbs a.natAbs b.natAbs (Nat.le_refl _)
  unfold f_measure s_measure c1_measure b1_measure
  simp only [Dv.get, Dv.xV, Dv.xC, Dv.frz, Dv.frzs, Dv.flat, Dv.flats, Dv.clean, Dv.cleans, Dv.frzSlot, Dv.frz1, Dv.frzAt, Dv.put, Dv.addD, Dv.subD, Dv.mulD, Dv.fdivD, Dv.modD, Dv.negD, Dv.x2, Dv.x1, Dv.xsN, Dv.xsC, Dv.xTup, Dv.xLst, Dv.xCall, Dv.asB, Dv.tOf, Dv.tNot, Dv.tAnd, Dv.tOr, Dv.xB, Dv.xIf, Dv.cmpI, Dv.ltD, Dv.leD, Dv.gtD, Dv.geD, Dv.xAnd, Dv.xOr, Dv.xNot, Dv.sN, Dv.sSeq, Dv.sSet, Dv.sRet, Dv.sRetV, Dv.sIf, Dv.sBk, Dv.sCt, Dv.gN, Dv.gsN, Dv.gsC, Dv.gT, Dv.fnD, Dv.ixD, Dv.slD, Dv.pN, Dv.pI, Dv.xSl, Dv.lenD', Dv.intD, Dv.maxD, Dv.minD, Dv.allD, Dv.anyD, Dv.allB, Dv.listD, Dv.xF, Dv.isiD, Dv.eqD, Dv.neD, Dv.isND, Dv.notND, Dv.isN2, Dv.notN2, Dv.sApp, Dv.itL, Dv.itR1, Dv.itR2, Dv.rngL, Dv.zipL, Dv.zipO, Dv.itZ, Dv.enuL, Dv.enuO, Dv.itEn, Dv.wipeD, Dv.keepD, Dv.tY, Dv.sAsg, Dv.sPar, Dv.sPar3, Dv.sAugI, Dv.sDrop, Dv.le_sLine, Dv.sh_non, Dv.sh_bl, Dv.sh_int, Dv.sh_tup, Dv.sh_lst, Dv.eqo_int, Dv.eqo_bl, Dv.eqo_tup, Dv.eqo_lst, Dv.eqos_nil, Dv.eqos_cons, List.all_cons, List.all_nil, Dv.beq_tt, Dv.beq_ff, Dv.beq_tf, Dv.beq_ft, List.getElem?_cons_zero, List.getElem?_cons_succ, List.getElem?_nil, List.set_cons_zero, List.set_cons_succ, List.set_nil, Option.bind_some, Option.bind_none, Option.map_some, Option.map_none, if_true, if_false, ↓reduceIte, decide_true, decide_false, Bool.false_eq_true, Bool.true_and, Bool.and_true, Bool.false_and, Bool.and_false, Bool.not_true, Bool.not_false, Bool.true_or, Bool.or_true, Bool.false_or, Bool.or_false, List.cons_append, List.nil_append, List.length_cons, List.length_nil, List.map_cons, List.map_nil, List.replicate_succ, List.replicate_zero, Nat.reduceAdd, Nat.reduceSub, Nat.reduceLT, Nat.reduceEqDiff, Nat.reduceLeDiff, Int.reduceAdd, Int.reduceSub, Int.reduceMul, Int.reduceNeg, Int.reduceLT, Int.reduceLE, Int.reduceEq, Int.reduceMod, Int.reduceDiv, Int.reduceToNat, Nat.add_zero, Nat.zero_add, List.contains_cons, List.contains_nil, Nat.reduceBEq, beq_self_eq_true, reduceCtorEq, and_true, true_and, and_false, false_and, not_true_eq_false, not_false_eq_true, absD, abs_nat]
  rw [h]
  rfl
end Sm
end
section
set_option Elab.async false
set_option linter.all false
set_option maxRecDepth 100000
namespace Sm
open Dv
/-- the sign of w -/
def sgn (w : Int) : Int := if w < 0 then -1 else 1
/-- a spot's three numbers -/
def spX (x y w : Int) : Int := (sgn w * x) / gcd3 (sgn w * x) (sgn w * y) (sgn w * w)
def spY (x y w : Int) : Int := (sgn w * y) / gcd3 (sgn w * x) (sgn w * y) (sgn w * w)
def spW (x y w : Int) : Int := (sgn w * w) / gcd3 (sgn w * x) (sgn w * y) (sgn w * w)
abbrev spO (x y w : Int) : O := .tup [.int (spX x y w), .int (spY x y w), .int (spW x y w)]
theorem sp_ok {x y w : Int} (hw : w ≠ 0) {a b c : Nat} [Sx : Sz a x] [Sy : Sz b y] [Sw : Sz c w] : Spot x y w (spX x y w) (spY x y w) (spW x y w) ∧ Sz a (spX x y w) ∧ Sz b (spY x y w) ∧ Sz c (spW x y w) := by
  obtain ⟨s, x', y', w', hs, e1, e2, e3, hS, g0, gl, lx, ly, lw⟩ := spot_low (x := x) (y := y) hw
  have hs' : s = sgn w := hs
  subst hs'
  have h1 : spX x y w = x' := e1
  have h2 : spY x y w = y' := e2
  have h3 : spW x y w = w' := e3
  rw [h1, h2, h3]
  exact ⟨hS, sz_le Sx lx, sz_le Sy ly, sz_le Sw lw⟩
theorem spot_eq {x y w : Int} (hw : w ≠ 0) {c : Nat} [Sw : Sz c w] (hc : Nat.ble c 140 = true) : f_spot [.int x, .int y, .int w] = some (spO x y w) := by
  obtain ⟨s, x', y', w', hs, e1, e2, e3, hS, g0, gl, lx, ly, lw⟩ := spot_low (x := x) (y := y) hw
  have hs' : s = sgn w := hs
  subst hs'
  have h1 : spX x y w = x' := e1
  have h2 : spY x y w = y' := e2
  have h3 : spW x y w = w' := e3
  haveI := sz_le Sw gl
  have hd : divOk (gcd3 (sgn w * x) (sgn w * y) (sgn w * w)) = true := divOk_sz g0 hc
  unfold spO
  rw [h1, h2, h3]
  unfold f_spot s_spot
  by_cases h : w < 0
  · have hsg : sgn w = -1 := if_pos h
    rw [hsg] at e1 e2 e3 hd
    have n : ∀ z : Int, -1 * z = -z := fun z => by omega
    simp only [n] at e1 e2 e3 hd
    simp (config := {decide := true}) only [Dv.get, Dv.xV, Dv.xC, Dv.frz, Dv.frzs, Dv.flat, Dv.flats, Dv.clean, Dv.cleans, Dv.frzSlot, Dv.frz1, Dv.frzAt, Dv.put, Dv.addD, Dv.subD, Dv.mulD, Dv.fdivD, Dv.modD, Dv.negD, Dv.x2, Dv.x1, Dv.xsN, Dv.xsC, Dv.xTup, Dv.xLst, Dv.xCall, Dv.asB, Dv.tOf, Dv.tNot, Dv.tAnd, Dv.tOr, Dv.xB, Dv.xIf, Dv.cmpI, Dv.ltD, Dv.leD, Dv.gtD, Dv.geD, Dv.xAnd, Dv.xOr, Dv.xNot, Dv.sN, Dv.sSeq, Dv.sSet, Dv.sRet, Dv.sRetV, Dv.sIf, Dv.sBk, Dv.sCt, Dv.gN, Dv.gsN, Dv.gsC, Dv.gT, Dv.fnD, Dv.ixD, Dv.slD, Dv.pN, Dv.pI, Dv.xSl, Dv.lenD', Dv.intD, Dv.maxD, Dv.minD, Dv.allD, Dv.anyD, Dv.allB, Dv.listD, Dv.xF, Dv.isiD, Dv.eqD, Dv.neD, Dv.isND, Dv.notND, Dv.isN2, Dv.notN2, Dv.sApp, Dv.itL, Dv.itR1, Dv.itR2, Dv.rngL, Dv.zipL, Dv.zipO, Dv.itZ, Dv.enuL, Dv.enuO, Dv.itEn, Dv.wipeD, Dv.keepD, Dv.tY, Dv.sAsg, Dv.sPar, Dv.sPar3, Dv.sAugI, Dv.sDrop, Dv.at_20, Dv.at_21, Dv.at_30, Dv.at_31, Dv.at_32, Dv.at_40, Dv.at_41, Dv.at_42, Dv.at_43, Dv.at_10, Dv.frzs_ints, Dv.cleans_ints, Dv.le_sLine, Dv.sh_non, Dv.sh_bl, Dv.sh_int, Dv.sh_tup, Dv.sh_lst, Dv.eqo_int, Dv.eqo_bl, Dv.eqo_tup, Dv.eqo_lst, Dv.eqos_nil, Dv.eqos_cons, List.all_cons, List.all_nil, Dv.beq_tt, Dv.beq_ff, Dv.beq_tf, Dv.beq_ft, List.getElem?_cons_zero, List.getElem?_cons_succ, List.getElem?_nil, List.set_cons_zero, List.set_cons_succ, List.set_nil, Option.bind_some, Option.bind_none, Option.map_some, Option.map_none, if_true, if_false, ↓reduceIte, decide_true, decide_false, Bool.false_eq_true, Bool.true_and, Bool.and_true, Bool.false_and, Bool.and_false, Bool.not_true, Bool.not_false, Bool.true_or, Bool.or_true, Bool.false_or, Bool.or_false, List.cons_append, List.nil_append, List.length_cons, List.length_nil, List.map_cons, List.map_nil, List.replicate_succ, List.replicate_zero, Nat.reduceAdd, Nat.reduceSub, Nat.reduceLT, Nat.reduceEqDiff, Nat.reduceLeDiff, Int.reduceAdd, Int.reduceSub, Int.reduceMul, Int.reduceNeg, Int.reduceLT, Int.reduceLE, Int.reduceEq, Int.reduceMod, Int.reduceDiv, Int.reduceToNat, Nat.add_zero, Nat.zero_add, List.contains_cons, List.contains_nil, Nat.reduceBEq, beq_self_eq_true, reduceCtorEq, and_true, true_and, and_false, false_and, not_true_eq_false, not_false_eq_true, Dv.mulOk_sz, h, measure_eq, hd, e1, e2, e3]
  · have hsg : sgn w = 1 := if_neg h
    rw [hsg] at e1 e2 e3 hd
    simp only [Int.one_mul] at e1 e2 e3 hd
    simp (config := {decide := true}) only [Dv.get, Dv.xV, Dv.xC, Dv.frz, Dv.frzs, Dv.flat, Dv.flats, Dv.clean, Dv.cleans, Dv.frzSlot, Dv.frz1, Dv.frzAt, Dv.put, Dv.addD, Dv.subD, Dv.mulD, Dv.fdivD, Dv.modD, Dv.negD, Dv.x2, Dv.x1, Dv.xsN, Dv.xsC, Dv.xTup, Dv.xLst, Dv.xCall, Dv.asB, Dv.tOf, Dv.tNot, Dv.tAnd, Dv.tOr, Dv.xB, Dv.xIf, Dv.cmpI, Dv.ltD, Dv.leD, Dv.gtD, Dv.geD, Dv.xAnd, Dv.xOr, Dv.xNot, Dv.sN, Dv.sSeq, Dv.sSet, Dv.sRet, Dv.sRetV, Dv.sIf, Dv.sBk, Dv.sCt, Dv.gN, Dv.gsN, Dv.gsC, Dv.gT, Dv.fnD, Dv.ixD, Dv.slD, Dv.pN, Dv.pI, Dv.xSl, Dv.lenD', Dv.intD, Dv.maxD, Dv.minD, Dv.allD, Dv.anyD, Dv.allB, Dv.listD, Dv.xF, Dv.isiD, Dv.eqD, Dv.neD, Dv.isND, Dv.notND, Dv.isN2, Dv.notN2, Dv.sApp, Dv.itL, Dv.itR1, Dv.itR2, Dv.rngL, Dv.zipL, Dv.zipO, Dv.itZ, Dv.enuL, Dv.enuO, Dv.itEn, Dv.wipeD, Dv.keepD, Dv.tY, Dv.sAsg, Dv.sPar, Dv.sPar3, Dv.sAugI, Dv.sDrop, Dv.at_20, Dv.at_21, Dv.at_30, Dv.at_31, Dv.at_32, Dv.at_40, Dv.at_41, Dv.at_42, Dv.at_43, Dv.at_10, Dv.frzs_ints, Dv.cleans_ints, Dv.le_sLine, Dv.sh_non, Dv.sh_bl, Dv.sh_int, Dv.sh_tup, Dv.sh_lst, Dv.eqo_int, Dv.eqo_bl, Dv.eqo_tup, Dv.eqo_lst, Dv.eqos_nil, Dv.eqos_cons, List.all_cons, List.all_nil, Dv.beq_tt, Dv.beq_ff, Dv.beq_tf, Dv.beq_ft, List.getElem?_cons_zero, List.getElem?_cons_succ, List.getElem?_nil, List.set_cons_zero, List.set_cons_succ, List.set_nil, Option.bind_some, Option.bind_none, Option.map_some, Option.map_none, if_true, if_false, ↓reduceIte, decide_true, decide_false, Bool.false_eq_true, Bool.true_and, Bool.and_true, Bool.false_and, Bool.and_false, Bool.not_true, Bool.not_false, Bool.true_or, Bool.or_true, Bool.false_or, Bool.or_false, List.cons_append, List.nil_append, List.length_cons, List.length_nil, List.map_cons, List.map_nil, List.replicate_succ, List.replicate_zero, Nat.reduceAdd, Nat.reduceSub, Nat.reduceLT, Nat.reduceEqDiff, Nat.reduceLeDiff, Int.reduceAdd, Int.reduceSub, Int.reduceMul, Int.reduceNeg, Int.reduceLT, Int.reduceLE, Int.reduceEq, Int.reduceMod, Int.reduceDiv, Int.reduceToNat, Nat.add_zero, Nat.zero_add, List.contains_cons, List.contains_nil, Nat.reduceBEq, beq_self_eq_true, reduceCtorEq, and_true, true_and, and_false, false_and, not_true_eq_false, not_false_eq_true, Dv.mulOk_sz, h, measure_eq, hd, e1, e2, e3]
end Sm
end
section
set_option Elab.async false
set_option linter.all false
set_option maxRecDepth 100000
namespace Sm
open Dv
theorem turn3_eq {p q x y : Int} (r z : List O) (h1 : mulOk p y = true) (h2 : mulOk q x = true) (hr : frzs r = r) (hz : frzs z = z) : f_turn [.tup (.int p :: .int q :: r), .tup (.int x :: .int y :: z)] = some (.int (p * y - q * x)) := by
  have t0 : ∀ (u v : O) (r : List O), at? (u :: v :: r) 0 = some u := fun _ _ _ => rfl
  have t1 : ∀ (u v : O) (r : List O), at? (u :: v :: r) 1 = some v := fun u v r => rfl
  unfold f_turn s_turn
  simp (config := {decide := true}) only [Dv.get, Dv.xV, Dv.xC, Dv.frz, Dv.frzs, Dv.flat, Dv.flats, Dv.clean, Dv.cleans, Dv.frzSlot, Dv.frz1, Dv.frzAt, Dv.put, Dv.addD, Dv.subD, Dv.mulD, Dv.fdivD, Dv.modD, Dv.negD, Dv.x2, Dv.x1, Dv.xsN, Dv.xsC, Dv.xTup, Dv.xLst, Dv.xCall, Dv.asB, Dv.tOf, Dv.tNot, Dv.tAnd, Dv.tOr, Dv.xB, Dv.xIf, Dv.cmpI, Dv.ltD, Dv.leD, Dv.gtD, Dv.geD, Dv.xAnd, Dv.xOr, Dv.xNot, Dv.sN, Dv.sSeq, Dv.sSet, Dv.sRet, Dv.sRetV, Dv.sIf, Dv.sBk, Dv.sCt, Dv.gN, Dv.gsN, Dv.gsC, Dv.gT, Dv.fnD, Dv.ixD, Dv.slD, Dv.pN, Dv.pI, Dv.xSl, Dv.lenD', Dv.intD, Dv.maxD, Dv.minD, Dv.allD, Dv.anyD, Dv.allB, Dv.listD, Dv.xF, Dv.isiD, Dv.eqD, Dv.neD, Dv.isND, Dv.notND, Dv.isN2, Dv.notN2, Dv.sApp, Dv.itL, Dv.itR1, Dv.itR2, Dv.rngL, Dv.zipL, Dv.zipO, Dv.itZ, Dv.enuL, Dv.enuO, Dv.itEn, Dv.wipeD, Dv.keepD, Dv.tY, Dv.sAsg, Dv.sPar, Dv.sPar3, Dv.sAugI, Dv.sDrop, Dv.at_20, Dv.at_21, Dv.at_30, Dv.at_31, Dv.at_32, Dv.at_40, Dv.at_41, Dv.at_42, Dv.at_43, Dv.at_10, Dv.frzs_ints, Dv.cleans_ints, Dv.le_sLine, Dv.sh_non, Dv.sh_bl, Dv.sh_int, Dv.sh_tup, Dv.sh_lst, Dv.eqo_int, Dv.eqo_bl, Dv.eqo_tup, Dv.eqo_lst, Dv.eqos_nil, Dv.eqos_cons, List.all_cons, List.all_nil, Dv.beq_tt, Dv.beq_ff, Dv.beq_tf, Dv.beq_ft, List.getElem?_cons_zero, List.getElem?_cons_succ, List.getElem?_nil, List.set_cons_zero, List.set_cons_succ, List.set_nil, Option.bind_some, Option.bind_none, Option.map_some, Option.map_none, if_true, if_false, ↓reduceIte, decide_true, decide_false, Bool.false_eq_true, Bool.true_and, Bool.and_true, Bool.false_and, Bool.and_false, Bool.not_true, Bool.not_false, Bool.true_or, Bool.or_true, Bool.false_or, Bool.or_false, List.cons_append, List.nil_append, List.length_cons, List.length_nil, List.map_cons, List.map_nil, List.replicate_succ, List.replicate_zero, Nat.reduceAdd, Nat.reduceSub, Nat.reduceLT, Nat.reduceEqDiff, Nat.reduceLeDiff, Int.reduceAdd, Int.reduceSub, Int.reduceMul, Int.reduceNeg, Int.reduceLT, Int.reduceLE, Int.reduceEq, Int.reduceMod, Int.reduceDiv, Int.reduceToNat, Nat.add_zero, Nat.zero_add, List.contains_cons, List.contains_nil, Nat.reduceBEq, beq_self_eq_true, reduceCtorEq, and_true, true_and, and_false, false_and, not_true_eq_false, not_false_eq_true, Dv.mulOk_sz, h1, h2, hr, hz, t0, t1]
/-- the crossing's three numbers -/
abbrev crX (a b c d e f : Int) : Int := c * e - f * b
abbrev crY (a b c d e f : Int) : Int := a * f - d * c
abbrev crW (a b c d e f : Int) : Int := a * e - b * d
abbrev crO (a b c d e f : Int) : O := spO (crX a b c d e f) (crY a b c d e f) (crW a b c d e f)
theorem crossing_eq (a b c d e f : Int) {k : Nat} [Sz k a] [Sz k b] [Sz k c] [Sz k d] [Sz k e] [Sz k f] (hk : Nat.ble (max (k + k) (k + k) + 1) 140 = true) (m : ∀ x y : Int, Sz k x → Sz k y → mulOk x y = true) : f_crossing [.tup [.int a, .int b, .int c], .tup [.int d, .int e, .int f]] = some (if crW a b c d e f = 0 then .non else crO a b c d e f) := by
  have mm : ∀ x y : Int, [Sz k x] → [Sz k y] → mulOk x y = true := fun x y _ _ => m x y inferInstance inferInstance
  have t := turn3_eq (p := a) (q := b) (x := d) (y := e) [.int c] [.int f] (mm _ _) (mm _ _) rfl rfl
  unfold f_crossing s_crossing
  refine fnD_of rfl rfl ?_
  refine Dv.seq_nx (by simp (config := {decide := true}) only [Dv.get, Dv.xV, Dv.xC, Dv.frz, Dv.frzs, Dv.flat, Dv.flats, Dv.clean, Dv.cleans, Dv.frzSlot, Dv.frz1, Dv.frzAt, Dv.put, Dv.addD, Dv.subD, Dv.mulD, Dv.fdivD, Dv.modD, Dv.negD, Dv.x2, Dv.x1, Dv.xsN, Dv.xsC, Dv.xTup, Dv.xLst, Dv.xCall, Dv.asB, Dv.tOf, Dv.tNot, Dv.tAnd, Dv.tOr, Dv.xB, Dv.xIf, Dv.cmpI, Dv.ltD, Dv.leD, Dv.gtD, Dv.geD, Dv.xAnd, Dv.xOr, Dv.xNot, Dv.sN, Dv.sSeq, Dv.sSet, Dv.sRet, Dv.sRetV, Dv.sIf, Dv.sBk, Dv.sCt, Dv.gN, Dv.gsN, Dv.gsC, Dv.gT, Dv.fnD, Dv.ixD, Dv.slD, Dv.pN, Dv.pI, Dv.xSl, Dv.lenD', Dv.intD, Dv.maxD, Dv.minD, Dv.allD, Dv.anyD, Dv.allB, Dv.listD, Dv.xF, Dv.isiD, Dv.eqD, Dv.neD, Dv.isND, Dv.notND, Dv.isN2, Dv.notN2, Dv.sApp, Dv.itL, Dv.itR1, Dv.itR2, Dv.rngL, Dv.zipL, Dv.zipO, Dv.itZ, Dv.enuL, Dv.enuO, Dv.itEn, Dv.wipeD, Dv.keepD, Dv.tY, Dv.sAsg, Dv.sPar, Dv.sPar3, Dv.sAugI, Dv.sDrop, Dv.at_20, Dv.at_21, Dv.at_30, Dv.at_31, Dv.at_32, Dv.at_40, Dv.at_41, Dv.at_42, Dv.at_43, Dv.at_10, Dv.frzs_ints, Dv.cleans_ints, Dv.le_sLine, Dv.sh_non, Dv.sh_bl, Dv.sh_int, Dv.sh_tup, Dv.sh_lst, Dv.eqo_int, Dv.eqo_bl, Dv.eqo_tup, Dv.eqo_lst, Dv.eqos_nil, Dv.eqos_cons, List.all_cons, List.all_nil, Dv.beq_tt, Dv.beq_ff, Dv.beq_tf, Dv.beq_ft, List.getElem?_cons_zero, List.getElem?_cons_succ, List.getElem?_nil, List.set_cons_zero, List.set_cons_succ, List.set_nil, Option.bind_some, Option.bind_none, Option.map_some, Option.map_none, if_true, if_false, ↓reduceIte, decide_true, decide_false, Bool.false_eq_true, Bool.true_and, Bool.and_true, Bool.false_and, Bool.and_false, Bool.not_true, Bool.not_false, Bool.true_or, Bool.or_true, Bool.false_or, Bool.or_false, List.cons_append, List.nil_append, List.length_cons, List.length_nil, List.map_cons, List.map_nil, List.replicate_succ, List.replicate_zero, Nat.reduceAdd, Nat.reduceSub, Nat.reduceLT, Nat.reduceEqDiff, Nat.reduceLeDiff, Int.reduceAdd, Int.reduceSub, Int.reduceMul, Int.reduceNeg, Int.reduceLT, Int.reduceLE, Int.reduceEq, Int.reduceMod, Int.reduceDiv, Int.reduceToNat, Nat.add_zero, Nat.zero_add, List.contains_cons, List.contains_nil, Nat.reduceBEq, beq_self_eq_true, reduceCtorEq, and_true, true_and, and_false, false_and, not_true_eq_false, not_false_eq_true, Dv.mulOk_sz, t] <;> rfl) ?_
  by_cases h : a * e - b * d = 0
  · refine seq_rt ?_
    simp (config := {decide := true}) only [Dv.get, Dv.xV, Dv.xC, Dv.frz, Dv.frzs, Dv.flat, Dv.flats, Dv.clean, Dv.cleans, Dv.frzSlot, Dv.frz1, Dv.frzAt, Dv.put, Dv.addD, Dv.subD, Dv.mulD, Dv.fdivD, Dv.modD, Dv.negD, Dv.x2, Dv.x1, Dv.xsN, Dv.xsC, Dv.xTup, Dv.xLst, Dv.xCall, Dv.asB, Dv.tOf, Dv.tNot, Dv.tAnd, Dv.tOr, Dv.xB, Dv.xIf, Dv.cmpI, Dv.ltD, Dv.leD, Dv.gtD, Dv.geD, Dv.xAnd, Dv.xOr, Dv.xNot, Dv.sN, Dv.sSeq, Dv.sSet, Dv.sRet, Dv.sRetV, Dv.sIf, Dv.sBk, Dv.sCt, Dv.gN, Dv.gsN, Dv.gsC, Dv.gT, Dv.fnD, Dv.ixD, Dv.slD, Dv.pN, Dv.pI, Dv.xSl, Dv.lenD', Dv.intD, Dv.maxD, Dv.minD, Dv.allD, Dv.anyD, Dv.allB, Dv.listD, Dv.xF, Dv.isiD, Dv.eqD, Dv.neD, Dv.isND, Dv.notND, Dv.isN2, Dv.notN2, Dv.sApp, Dv.itL, Dv.itR1, Dv.itR2, Dv.rngL, Dv.zipL, Dv.zipO, Dv.itZ, Dv.enuL, Dv.enuO, Dv.itEn, Dv.wipeD, Dv.keepD, Dv.tY, Dv.sAsg, Dv.sPar, Dv.sPar3, Dv.sAugI, Dv.sDrop, Dv.at_20, Dv.at_21, Dv.at_30, Dv.at_31, Dv.at_32, Dv.at_40, Dv.at_41, Dv.at_42, Dv.at_43, Dv.at_10, Dv.frzs_ints, Dv.cleans_ints, Dv.le_sLine, Dv.sh_non, Dv.sh_bl, Dv.sh_int, Dv.sh_tup, Dv.sh_lst, Dv.eqo_int, Dv.eqo_bl, Dv.eqo_tup, Dv.eqo_lst, Dv.eqos_nil, Dv.eqos_cons, List.all_cons, List.all_nil, Dv.beq_tt, Dv.beq_ff, Dv.beq_tf, Dv.beq_ft, List.getElem?_cons_zero, List.getElem?_cons_succ, List.getElem?_nil, List.set_cons_zero, List.set_cons_succ, List.set_nil, Option.bind_some, Option.bind_none, Option.map_some, Option.map_none, if_true, if_false, ↓reduceIte, decide_true, decide_false, Bool.false_eq_true, Bool.true_and, Bool.and_true, Bool.false_and, Bool.and_false, Bool.not_true, Bool.not_false, Bool.true_or, Bool.or_true, Bool.false_or, Bool.or_false, List.cons_append, List.nil_append, List.length_cons, List.length_nil, List.map_cons, List.map_nil, List.replicate_succ, List.replicate_zero, Nat.reduceAdd, Nat.reduceSub, Nat.reduceLT, Nat.reduceEqDiff, Nat.reduceLeDiff, Int.reduceAdd, Int.reduceSub, Int.reduceMul, Int.reduceNeg, Int.reduceLT, Int.reduceLE, Int.reduceEq, Int.reduceMod, Int.reduceDiv, Int.reduceToNat, Nat.add_zero, Nat.zero_add, List.contains_cons, List.contains_nil, Nat.reduceBEq, beq_self_eq_true, reduceCtorEq, and_true, true_and, and_false, false_and, not_true_eq_false, not_false_eq_true, Dv.mulOk_sz, h]
  · have hs := spot_eq (x := crX a b c d e f) (y := crY a b c d e f) (w := crW a b c d e f) h hk
    refine Dv.seq_nx (by simp (config := {decide := true}) only [Dv.get, Dv.xV, Dv.xC, Dv.frz, Dv.frzs, Dv.flat, Dv.flats, Dv.clean, Dv.cleans, Dv.frzSlot, Dv.frz1, Dv.frzAt, Dv.put, Dv.addD, Dv.subD, Dv.mulD, Dv.fdivD, Dv.modD, Dv.negD, Dv.x2, Dv.x1, Dv.xsN, Dv.xsC, Dv.xTup, Dv.xLst, Dv.xCall, Dv.asB, Dv.tOf, Dv.tNot, Dv.tAnd, Dv.tOr, Dv.xB, Dv.xIf, Dv.cmpI, Dv.ltD, Dv.leD, Dv.gtD, Dv.geD, Dv.xAnd, Dv.xOr, Dv.xNot, Dv.sN, Dv.sSeq, Dv.sSet, Dv.sRet, Dv.sRetV, Dv.sIf, Dv.sBk, Dv.sCt, Dv.gN, Dv.gsN, Dv.gsC, Dv.gT, Dv.fnD, Dv.ixD, Dv.slD, Dv.pN, Dv.pI, Dv.xSl, Dv.lenD', Dv.intD, Dv.maxD, Dv.minD, Dv.allD, Dv.anyD, Dv.allB, Dv.listD, Dv.xF, Dv.isiD, Dv.eqD, Dv.neD, Dv.isND, Dv.notND, Dv.isN2, Dv.notN2, Dv.sApp, Dv.itL, Dv.itR1, Dv.itR2, Dv.rngL, Dv.zipL, Dv.zipO, Dv.itZ, Dv.enuL, Dv.enuO, Dv.itEn, Dv.wipeD, Dv.keepD, Dv.tY, Dv.sAsg, Dv.sPar, Dv.sPar3, Dv.sAugI, Dv.sDrop, Dv.at_20, Dv.at_21, Dv.at_30, Dv.at_31, Dv.at_32, Dv.at_40, Dv.at_41, Dv.at_42, Dv.at_43, Dv.at_10, Dv.frzs_ints, Dv.cleans_ints, Dv.le_sLine, Dv.sh_non, Dv.sh_bl, Dv.sh_int, Dv.sh_tup, Dv.sh_lst, Dv.eqo_int, Dv.eqo_bl, Dv.eqo_tup, Dv.eqo_lst, Dv.eqos_nil, Dv.eqos_cons, List.all_cons, List.all_nil, Dv.beq_tt, Dv.beq_ff, Dv.beq_tf, Dv.beq_ft, List.getElem?_cons_zero, List.getElem?_cons_succ, List.getElem?_nil, List.set_cons_zero, List.set_cons_succ, List.set_nil, Option.bind_some, Option.bind_none, Option.map_some, Option.map_none, if_true, if_false, ↓reduceIte, decide_true, decide_false, Bool.false_eq_true, Bool.true_and, Bool.and_true, Bool.false_and, Bool.and_false, Bool.not_true, Bool.not_false, Bool.true_or, Bool.or_true, Bool.false_or, Bool.or_false, List.cons_append, List.nil_append, List.length_cons, List.length_nil, List.map_cons, List.map_nil, List.replicate_succ, List.replicate_zero, Nat.reduceAdd, Nat.reduceSub, Nat.reduceLT, Nat.reduceEqDiff, Nat.reduceLeDiff, Int.reduceAdd, Int.reduceSub, Int.reduceMul, Int.reduceNeg, Int.reduceLT, Int.reduceLE, Int.reduceEq, Int.reduceMod, Int.reduceDiv, Int.reduceToNat, Nat.add_zero, Nat.zero_add, List.contains_cons, List.contains_nil, Nat.reduceBEq, beq_self_eq_true, reduceCtorEq, and_true, true_and, and_false, false_and, not_true_eq_false, not_false_eq_true, Dv.mulOk_sz, h] <;> rfl) ?_
    refine Dv.seq_nx (by simp (config := {decide := true}) only [Dv.get, Dv.xV, Dv.xC, Dv.frz, Dv.frzs, Dv.flat, Dv.flats, Dv.clean, Dv.cleans, Dv.frzSlot, Dv.frz1, Dv.frzAt, Dv.put, Dv.addD, Dv.subD, Dv.mulD, Dv.fdivD, Dv.modD, Dv.negD, Dv.x2, Dv.x1, Dv.xsN, Dv.xsC, Dv.xTup, Dv.xLst, Dv.xCall, Dv.asB, Dv.tOf, Dv.tNot, Dv.tAnd, Dv.tOr, Dv.xB, Dv.xIf, Dv.cmpI, Dv.ltD, Dv.leD, Dv.gtD, Dv.geD, Dv.xAnd, Dv.xOr, Dv.xNot, Dv.sN, Dv.sSeq, Dv.sSet, Dv.sRet, Dv.sRetV, Dv.sIf, Dv.sBk, Dv.sCt, Dv.gN, Dv.gsN, Dv.gsC, Dv.gT, Dv.fnD, Dv.ixD, Dv.slD, Dv.pN, Dv.pI, Dv.xSl, Dv.lenD', Dv.intD, Dv.maxD, Dv.minD, Dv.allD, Dv.anyD, Dv.allB, Dv.listD, Dv.xF, Dv.isiD, Dv.eqD, Dv.neD, Dv.isND, Dv.notND, Dv.isN2, Dv.notN2, Dv.sApp, Dv.itL, Dv.itR1, Dv.itR2, Dv.rngL, Dv.zipL, Dv.zipO, Dv.itZ, Dv.enuL, Dv.enuO, Dv.itEn, Dv.wipeD, Dv.keepD, Dv.tY, Dv.sAsg, Dv.sPar, Dv.sPar3, Dv.sAugI, Dv.sDrop, Dv.at_20, Dv.at_21, Dv.at_30, Dv.at_31, Dv.at_32, Dv.at_40, Dv.at_41, Dv.at_42, Dv.at_43, Dv.at_10, Dv.frzs_ints, Dv.cleans_ints, Dv.le_sLine, Dv.sh_non, Dv.sh_bl, Dv.sh_int, Dv.sh_tup, Dv.sh_lst, Dv.eqo_int, Dv.eqo_bl, Dv.eqo_tup, Dv.eqo_lst, Dv.eqos_nil, Dv.eqos_cons, List.all_cons, List.all_nil, Dv.beq_tt, Dv.beq_ff, Dv.beq_tf, Dv.beq_ft, List.getElem?_cons_zero, List.getElem?_cons_succ, List.getElem?_nil, List.set_cons_zero, List.set_cons_succ, List.set_nil, Option.bind_some, Option.bind_none, Option.map_some, Option.map_none, if_true, if_false, ↓reduceIte, decide_true, decide_false, Bool.false_eq_true, Bool.true_and, Bool.and_true, Bool.false_and, Bool.and_false, Bool.not_true, Bool.not_false, Bool.true_or, Bool.or_true, Bool.false_or, Bool.or_false, List.cons_append, List.nil_append, List.length_cons, List.length_nil, List.map_cons, List.map_nil, List.replicate_succ, List.replicate_zero, Nat.reduceAdd, Nat.reduceSub, Nat.reduceLT, Nat.reduceEqDiff, Nat.reduceLeDiff, Int.reduceAdd, Int.reduceSub, Int.reduceMul, Int.reduceNeg, Int.reduceLT, Int.reduceLE, Int.reduceEq, Int.reduceMod, Int.reduceDiv, Int.reduceToNat, Nat.add_zero, Nat.zero_add, List.contains_cons, List.contains_nil, Nat.reduceBEq, beq_self_eq_true, reduceCtorEq, and_true, true_and, and_false, false_and, not_true_eq_false, not_false_eq_true, Dv.mulOk_sz, mm c e, mm f b] <;> rfl) ?_
    refine Dv.seq_nx (by simp (config := {decide := true}) only [Dv.get, Dv.xV, Dv.xC, Dv.frz, Dv.frzs, Dv.flat, Dv.flats, Dv.clean, Dv.cleans, Dv.frzSlot, Dv.frz1, Dv.frzAt, Dv.put, Dv.addD, Dv.subD, Dv.mulD, Dv.fdivD, Dv.modD, Dv.negD, Dv.x2, Dv.x1, Dv.xsN, Dv.xsC, Dv.xTup, Dv.xLst, Dv.xCall, Dv.asB, Dv.tOf, Dv.tNot, Dv.tAnd, Dv.tOr, Dv.xB, Dv.xIf, Dv.cmpI, Dv.ltD, Dv.leD, Dv.gtD, Dv.geD, Dv.xAnd, Dv.xOr, Dv.xNot, Dv.sN, Dv.sSeq, Dv.sSet, Dv.sRet, Dv.sRetV, Dv.sIf, Dv.sBk, Dv.sCt, Dv.gN, Dv.gsN, Dv.gsC, Dv.gT, Dv.fnD, Dv.ixD, Dv.slD, Dv.pN, Dv.pI, Dv.xSl, Dv.lenD', Dv.intD, Dv.maxD, Dv.minD, Dv.allD, Dv.anyD, Dv.allB, Dv.listD, Dv.xF, Dv.isiD, Dv.eqD, Dv.neD, Dv.isND, Dv.notND, Dv.isN2, Dv.notN2, Dv.sApp, Dv.itL, Dv.itR1, Dv.itR2, Dv.rngL, Dv.zipL, Dv.zipO, Dv.itZ, Dv.enuL, Dv.enuO, Dv.itEn, Dv.wipeD, Dv.keepD, Dv.tY, Dv.sAsg, Dv.sPar, Dv.sPar3, Dv.sAugI, Dv.sDrop, Dv.at_20, Dv.at_21, Dv.at_30, Dv.at_31, Dv.at_32, Dv.at_40, Dv.at_41, Dv.at_42, Dv.at_43, Dv.at_10, Dv.frzs_ints, Dv.cleans_ints, Dv.le_sLine, Dv.sh_non, Dv.sh_bl, Dv.sh_int, Dv.sh_tup, Dv.sh_lst, Dv.eqo_int, Dv.eqo_bl, Dv.eqo_tup, Dv.eqo_lst, Dv.eqos_nil, Dv.eqos_cons, List.all_cons, List.all_nil, Dv.beq_tt, Dv.beq_ff, Dv.beq_tf, Dv.beq_ft, List.getElem?_cons_zero, List.getElem?_cons_succ, List.getElem?_nil, List.set_cons_zero, List.set_cons_succ, List.set_nil, Option.bind_some, Option.bind_none, Option.map_some, Option.map_none, if_true, if_false, ↓reduceIte, decide_true, decide_false, Bool.false_eq_true, Bool.true_and, Bool.and_true, Bool.false_and, Bool.and_false, Bool.not_true, Bool.not_false, Bool.true_or, Bool.or_true, Bool.false_or, Bool.or_false, List.cons_append, List.nil_append, List.length_cons, List.length_nil, List.map_cons, List.map_nil, List.replicate_succ, List.replicate_zero, Nat.reduceAdd, Nat.reduceSub, Nat.reduceLT, Nat.reduceEqDiff, Nat.reduceLeDiff, Int.reduceAdd, Int.reduceSub, Int.reduceMul, Int.reduceNeg, Int.reduceLT, Int.reduceLE, Int.reduceEq, Int.reduceMod, Int.reduceDiv, Int.reduceToNat, Nat.add_zero, Nat.zero_add, List.contains_cons, List.contains_nil, Nat.reduceBEq, beq_self_eq_true, reduceCtorEq, and_true, true_and, and_false, false_and, not_true_eq_false, not_false_eq_true, Dv.mulOk_sz, mm a f, mm d c] <;> rfl) ?_
    simp (config := {decide := true}) only [Dv.get, Dv.xV, Dv.xC, Dv.frz, Dv.frzs, Dv.flat, Dv.flats, Dv.clean, Dv.cleans, Dv.frzSlot, Dv.frz1, Dv.frzAt, Dv.put, Dv.addD, Dv.subD, Dv.mulD, Dv.fdivD, Dv.modD, Dv.negD, Dv.x2, Dv.x1, Dv.xsN, Dv.xsC, Dv.xTup, Dv.xLst, Dv.xCall, Dv.asB, Dv.tOf, Dv.tNot, Dv.tAnd, Dv.tOr, Dv.xB, Dv.xIf, Dv.cmpI, Dv.ltD, Dv.leD, Dv.gtD, Dv.geD, Dv.xAnd, Dv.xOr, Dv.xNot, Dv.sN, Dv.sSeq, Dv.sSet, Dv.sRet, Dv.sRetV, Dv.sIf, Dv.sBk, Dv.sCt, Dv.gN, Dv.gsN, Dv.gsC, Dv.gT, Dv.fnD, Dv.ixD, Dv.slD, Dv.pN, Dv.pI, Dv.xSl, Dv.lenD', Dv.intD, Dv.maxD, Dv.minD, Dv.allD, Dv.anyD, Dv.allB, Dv.listD, Dv.xF, Dv.isiD, Dv.eqD, Dv.neD, Dv.isND, Dv.notND, Dv.isN2, Dv.notN2, Dv.sApp, Dv.itL, Dv.itR1, Dv.itR2, Dv.rngL, Dv.zipL, Dv.zipO, Dv.itZ, Dv.enuL, Dv.enuO, Dv.itEn, Dv.wipeD, Dv.keepD, Dv.tY, Dv.sAsg, Dv.sPar, Dv.sPar3, Dv.sAugI, Dv.sDrop, Dv.at_20, Dv.at_21, Dv.at_30, Dv.at_31, Dv.at_32, Dv.at_40, Dv.at_41, Dv.at_42, Dv.at_43, Dv.at_10, Dv.frzs_ints, Dv.cleans_ints, Dv.le_sLine, Dv.sh_non, Dv.sh_bl, Dv.sh_int, Dv.sh_tup, Dv.sh_lst, Dv.eqo_int, Dv.eqo_bl, Dv.eqo_tup, Dv.eqo_lst, Dv.eqos_nil, Dv.eqos_cons, List.all_cons, List.all_nil, Dv.beq_tt, Dv.beq_ff, Dv.beq_tf, Dv.beq_ft, List.getElem?_cons_zero, List.getElem?_cons_succ, List.getElem?_nil, List.set_cons_zero, List.set_cons_succ, List.set_nil, Option.bind_some, Option.bind_none, Option.map_some, Option.map_none, if_true, if_false, ↓reduceIte, decide_true, decide_false, Bool.false_eq_true, Bool.true_and, Bool.and_true, Bool.false_and, Bool.and_false, Bool.not_true, Bool.not_false, Bool.true_or, Bool.or_true, Bool.false_or, Bool.or_false, List.cons_append, List.nil_append, List.length_cons, List.length_nil, List.map_cons, List.map_nil, List.replicate_succ, List.replicate_zero, Nat.reduceAdd, Nat.reduceSub, Nat.reduceLT, Nat.reduceEqDiff, Nat.reduceLeDiff, Int.reduceAdd, Int.reduceSub, Int.reduceMul, Int.reduceNeg, Int.reduceLT, Int.reduceLE, Int.reduceEq, Int.reduceMod, Int.reduceDiv, Int.reduceToNat, Nat.add_zero, Nat.zero_add, List.contains_cons, List.contains_nil, Nat.reduceBEq, beq_self_eq_true, reduceCtorEq, and_true, true_and, and_false, false_and, not_true_eq_false, not_false_eq_true, Dv.mulOk_sz, hs, h]
end Sm
end
section
set_option Elab.async false
set_option linter.all false
set_option maxRecDepth 100000
namespace Sm
open Dv
theorem along_eq {a b c x y w : Int} (h1 : mulOk a x = true) (h2 : mulOk b y = true) : f_along [.tup [.int a, .int b, .int c], .tup [.int x, .int y, .int w]] = some (.int (a * x + b * y)) := by
  unfold f_along s_along
  simp (config := {decide := true}) only [Dv.get, Dv.xV, Dv.xC, Dv.frz, Dv.frzs, Dv.flat, Dv.flats, Dv.clean, Dv.cleans, Dv.frzSlot, Dv.frz1, Dv.frzAt, Dv.put, Dv.addD, Dv.subD, Dv.mulD, Dv.fdivD, Dv.modD, Dv.negD, Dv.x2, Dv.x1, Dv.xsN, Dv.xsC, Dv.xTup, Dv.xLst, Dv.xCall, Dv.asB, Dv.tOf, Dv.tNot, Dv.tAnd, Dv.tOr, Dv.xB, Dv.xIf, Dv.cmpI, Dv.ltD, Dv.leD, Dv.gtD, Dv.geD, Dv.xAnd, Dv.xOr, Dv.xNot, Dv.sN, Dv.sSeq, Dv.sSet, Dv.sRet, Dv.sRetV, Dv.sIf, Dv.sBk, Dv.sCt, Dv.gN, Dv.gsN, Dv.gsC, Dv.gT, Dv.fnD, Dv.ixD, Dv.slD, Dv.pN, Dv.pI, Dv.xSl, Dv.lenD', Dv.intD, Dv.maxD, Dv.minD, Dv.allD, Dv.anyD, Dv.allB, Dv.listD, Dv.xF, Dv.isiD, Dv.eqD, Dv.neD, Dv.isND, Dv.notND, Dv.isN2, Dv.notN2, Dv.sApp, Dv.itL, Dv.itR1, Dv.itR2, Dv.rngL, Dv.zipL, Dv.zipO, Dv.itZ, Dv.enuL, Dv.enuO, Dv.itEn, Dv.wipeD, Dv.keepD, Dv.tY, Dv.sAsg, Dv.sPar, Dv.sPar3, Dv.sAugI, Dv.sDrop, Dv.at_20, Dv.at_21, Dv.at_30, Dv.at_31, Dv.at_32, Dv.at_40, Dv.at_41, Dv.at_42, Dv.at_43, Dv.at_10, Dv.frzs_ints, Dv.cleans_ints, Dv.le_sLine, Dv.sh_non, Dv.sh_bl, Dv.sh_int, Dv.sh_tup, Dv.sh_lst, Dv.eqo_int, Dv.eqo_bl, Dv.eqo_tup, Dv.eqo_lst, Dv.eqos_nil, Dv.eqos_cons, List.all_cons, List.all_nil, Dv.beq_tt, Dv.beq_ff, Dv.beq_tf, Dv.beq_ft, List.getElem?_cons_zero, List.getElem?_cons_succ, List.getElem?_nil, List.set_cons_zero, List.set_cons_succ, List.set_nil, Option.bind_some, Option.bind_none, Option.map_some, Option.map_none, if_true, if_false, ↓reduceIte, decide_true, decide_false, Bool.false_eq_true, Bool.true_and, Bool.and_true, Bool.false_and, Bool.and_false, Bool.not_true, Bool.not_false, Bool.true_or, Bool.or_true, Bool.false_or, Bool.or_false, List.cons_append, List.nil_append, List.length_cons, List.length_nil, List.map_cons, List.map_nil, List.replicate_succ, List.replicate_zero, Nat.reduceAdd, Nat.reduceSub, Nat.reduceLT, Nat.reduceEqDiff, Nat.reduceLeDiff, Int.reduceAdd, Int.reduceSub, Int.reduceMul, Int.reduceNeg, Int.reduceLT, Int.reduceLE, Int.reduceEq, Int.reduceMod, Int.reduceDiv, Int.reduceToNat, Nat.add_zero, Nat.zero_add, List.contains_cons, List.contains_nil, Nat.reduceBEq, beq_self_eq_true, reduceCtorEq, and_true, true_and, and_false, false_and, not_true_eq_false, not_false_eq_true, Dv.mulOk_sz, h1, h2]
theorem holds_eq {a b c x y w : Int} (h1 : mulOk a x = true) (h2 : mulOk b y = true) (h3 : mulOk c w = true) : f_holds [.tup [.int a, .int b, .int c], .tup [.int x, .int y, .int w]] = some (.bl (decide (a * x + b * y ≤ c * w))) := by
  have h := along_eq (c := c) (w := w) h1 h2
  unfold f_holds s_holds
  simp (config := {decide := true}) only [Dv.get, Dv.xV, Dv.xC, Dv.frz, Dv.frzs, Dv.flat, Dv.flats, Dv.clean, Dv.cleans, Dv.frzSlot, Dv.frz1, Dv.frzAt, Dv.put, Dv.addD, Dv.subD, Dv.mulD, Dv.fdivD, Dv.modD, Dv.negD, Dv.x2, Dv.x1, Dv.xsN, Dv.xsC, Dv.xTup, Dv.xLst, Dv.xCall, Dv.asB, Dv.tOf, Dv.tNot, Dv.tAnd, Dv.tOr, Dv.xB, Dv.xIf, Dv.cmpI, Dv.ltD, Dv.leD, Dv.gtD, Dv.geD, Dv.xAnd, Dv.xOr, Dv.xNot, Dv.sN, Dv.sSeq, Dv.sSet, Dv.sRet, Dv.sRetV, Dv.sIf, Dv.sBk, Dv.sCt, Dv.gN, Dv.gsN, Dv.gsC, Dv.gT, Dv.fnD, Dv.ixD, Dv.slD, Dv.pN, Dv.pI, Dv.xSl, Dv.lenD', Dv.intD, Dv.maxD, Dv.minD, Dv.allD, Dv.anyD, Dv.allB, Dv.listD, Dv.xF, Dv.isiD, Dv.eqD, Dv.neD, Dv.isND, Dv.notND, Dv.isN2, Dv.notN2, Dv.sApp, Dv.itL, Dv.itR1, Dv.itR2, Dv.rngL, Dv.zipL, Dv.zipO, Dv.itZ, Dv.enuL, Dv.enuO, Dv.itEn, Dv.wipeD, Dv.keepD, Dv.tY, Dv.sAsg, Dv.sPar, Dv.sPar3, Dv.sAugI, Dv.sDrop, Dv.at_20, Dv.at_21, Dv.at_30, Dv.at_31, Dv.at_32, Dv.at_40, Dv.at_41, Dv.at_42, Dv.at_43, Dv.at_10, Dv.frzs_ints, Dv.cleans_ints, Dv.le_sLine, Dv.sh_non, Dv.sh_bl, Dv.sh_int, Dv.sh_tup, Dv.sh_lst, Dv.eqo_int, Dv.eqo_bl, Dv.eqo_tup, Dv.eqo_lst, Dv.eqos_nil, Dv.eqos_cons, List.all_cons, List.all_nil, Dv.beq_tt, Dv.beq_ff, Dv.beq_tf, Dv.beq_ft, List.getElem?_cons_zero, List.getElem?_cons_succ, List.getElem?_nil, List.set_cons_zero, List.set_cons_succ, List.set_nil, Option.bind_some, Option.bind_none, Option.map_some, Option.map_none, if_true, if_false, ↓reduceIte, decide_true, decide_false, Bool.false_eq_true, Bool.true_and, Bool.and_true, Bool.false_and, Bool.and_false, Bool.not_true, Bool.not_false, Bool.true_or, Bool.or_true, Bool.false_or, Bool.or_false, List.cons_append, List.nil_append, List.length_cons, List.length_nil, List.map_cons, List.map_nil, List.replicate_succ, List.replicate_zero, Nat.reduceAdd, Nat.reduceSub, Nat.reduceLT, Nat.reduceEqDiff, Nat.reduceLeDiff, Int.reduceAdd, Int.reduceSub, Int.reduceMul, Int.reduceNeg, Int.reduceLT, Int.reduceLE, Int.reduceEq, Int.reduceMod, Int.reduceDiv, Int.reduceToNat, Nat.add_zero, Nat.zero_add, List.contains_cons, List.contains_nil, Nat.reduceBEq, beq_self_eq_true, reduceCtorEq, and_true, true_and, and_false, false_and, not_true_eq_false, not_false_eq_true, Dv.mulOk_sz, h, h3]
end Sm
end
section
set_option Elab.async false
set_option linter.all false
set_option maxRecDepth 100000
namespace Sm
open Dv
/-- the crossing of two sides -/
def crS (p q : S3) : Option S3 := if crW p.1 p.2.1 p.2.2 q.1 q.2.1 q.2.2 = 0 then none else
  some (spX (crX p.1 p.2.1 p.2.2 q.1 q.2.1 q.2.2) (crY p.1 p.2.1 p.2.2 q.1 q.2.1 q.2.2) (crW p.1 p.2.1 p.2.2 q.1 q.2.1 q.2.2),
    spY (crX p.1 p.2.1 p.2.2 q.1 q.2.1 q.2.2) (crY p.1 p.2.1 p.2.2 q.1 q.2.1 q.2.2) (crW p.1 p.2.1 p.2.2 q.1 q.2.1 q.2.2),
    spW (crX p.1 p.2.1 p.2.2 q.1 q.2.1 q.2.2) (crY p.1 p.2.1 p.2.2 q.1 q.2.1 q.2.2) (crW p.1 p.2.1 p.2.2 q.1 q.2.1 q.2.2))
def opO : Option S3 → O
  | none => .non
  | some p => sO p
theorem crossS_eq {p q : S3} (hp : Bk 1 p) (hq : Bk 1 q) : f_crossing [sO p, sO q] = some (opO (crS p q)) := by
  obtain ⟨a, b, c⟩ := p
  obtain ⟨d, e, f⟩ := q
  obtain ⟨h1, h2, h3⟩ := hp
  obtain ⟨h4, h5, h6⟩ := hq
  simp only at h1 h2 h3 h4 h5 h6
  have h := crossing_eq a b c d e f (k := 1) rfl (fun x y _ _ => mulOk_sz rfl)
  show f_crossing [.tup [.int a, .int b, .int c], .tup [.int d, .int e, .int f]] = _
  rw [h]
  unfold crS
  by_cases c0 : crW a b c d e f = 0
  · rw [if_pos c0, if_pos c0]; rfl
  · rw [if_neg c0, if_neg c0]; rfl
/-- a spot in lowest terms -/
def Spt (s : S3) : Prop := 1 ≤ s.2.2 ∧ gcd3 s.1 s.2.1 s.2.2 = 1
theorem crS_ok {p q s : S3} (hp : Bk 1 p) (hq : Bk 1 q) (h : crS p q = some s) : Bk 3 s ∧ Spt s := by
  obtain ⟨a, b, c⟩ := p
  obtain ⟨d, e, f⟩ := q
  obtain ⟨h1, h2, h3⟩ := hp
  obtain ⟨h4, h5, h6⟩ := hq
  simp only at h1 h2 h3 h4 h5 h6
  unfold crS at h
  split at h
  · cases h
  · rename_i c0
    cases h
    obtain ⟨hS, s1, s2, s3⟩ := sp_ok (x := crX a b c d e f) (y := crY a b c d e f) (w := crW a b c d e f) c0
    exact ⟨⟨sz_mono s1 (by decide), sz_mono s2 (by decide), sz_mono s3 (by decide)⟩, hS.w1, hS.g⟩
theorem holdsS_eq {s p : S3} (hs : Bk 1 s) (hp : Bk 3 p) : f_holds [sO s, sO p] = some (.bl (holdB p s)) := by
  obtain ⟨h1, h2, h3⟩ := hs
  obtain ⟨h4, h5, h6⟩ := hp
  exact holds_eq (mulOk_sz rfl) (mulOk_sz rfl) (mulOk_sz rfl)
theorem in_all_eq (o : Bool) (S : List S3) (hS : ∀ s ∈ S, Bk 1 s) {p : S3} (hp : Bk 3 p) : f_in_all [.lst o (S.map sO), sO p] = some (.bl (S.all (holdB p))) := by
  have loop : ∀ (R : List S3) (o2 : Option O) (s0 : Option O), (∀ s ∈ R, Bk 1 s) → ∃ o2', forD (gN 2) b1_in_all (R.map sO) [s0, some (sO p), o2] = if R.all (holdB p) then some (.nx [s0, some (sO p), o2']) else some (.rt (.bl false)) := by
    intro R
    induction R with
    | nil => exact fun o2 s0 _ => ⟨o2, rfl⟩
    | cons s R ih =>
      intro o2 s0 hR
      have hh := holdsS_eq (hR s List.mem_cons_self) hp
      cases c : holdB p s with
      | true =>
        obtain ⟨o2', h2⟩ := ih (some (sO s)) s0 fun q h => hR q (List.mem_cons_of_mem _ h)
        refine ⟨o2', ?_⟩
        rw [List.map_cons, forD_cons (τ1 := [s0, some (sO p), some (sO s)]) (τ' := [s0, some (sO p), some (sO s)]) rfl (by unfold b1_in_all; rw [c] at hh; simp (config := {decide := true}) only [Dv.get, Dv.xV, Dv.xC, Dv.frz, Dv.frzs, Dv.flat, Dv.flats, Dv.clean, Dv.cleans, Dv.frzSlot, Dv.frz1, Dv.frzAt, Dv.put, Dv.addD, Dv.subD, Dv.mulD, Dv.fdivD, Dv.modD, Dv.negD, Dv.x2, Dv.x1, Dv.xsN, Dv.xsC, Dv.xTup, Dv.xLst, Dv.xCall, Dv.asB, Dv.tOf, Dv.tNot, Dv.tAnd, Dv.tOr, Dv.xB, Dv.xIf, Dv.cmpI, Dv.ltD, Dv.leD, Dv.gtD, Dv.geD, Dv.xAnd, Dv.xOr, Dv.xNot, Dv.sN, Dv.sSeq, Dv.sSet, Dv.sRet, Dv.sRetV, Dv.sIf, Dv.sBk, Dv.sCt, Dv.gN, Dv.gsN, Dv.gsC, Dv.gT, Dv.fnD, Dv.ixD, Dv.slD, Dv.pN, Dv.pI, Dv.xSl, Dv.lenD', Dv.intD, Dv.maxD, Dv.minD, Dv.allD, Dv.anyD, Dv.allB, Dv.listD, Dv.xF, Dv.isiD, Dv.eqD, Dv.neD, Dv.isND, Dv.notND, Dv.isN2, Dv.notN2, Dv.sApp, Dv.itL, Dv.itR1, Dv.itR2, Dv.rngL, Dv.zipL, Dv.zipO, Dv.itZ, Dv.enuL, Dv.enuO, Dv.itEn, Dv.wipeD, Dv.keepD, Dv.tY, Dv.sAsg, Dv.sPar, Dv.sPar3, Dv.sAugI, Dv.sDrop, Dv.at_20, Dv.at_21, Dv.at_30, Dv.at_31, Dv.at_32, Dv.at_40, Dv.at_41, Dv.at_42, Dv.at_43, Dv.at_10, Dv.frzs_ints, Dv.cleans_ints, Dv.le_sLine, Dv.sh_non, Dv.sh_bl, Dv.sh_int, Dv.sh_tup, Dv.sh_lst, Dv.eqo_int, Dv.eqo_bl, Dv.eqo_tup, Dv.eqo_lst, Dv.eqos_nil, Dv.eqos_cons, List.all_cons, List.all_nil, Dv.beq_tt, Dv.beq_ff, Dv.beq_tf, Dv.beq_ft, List.getElem?_cons_zero, List.getElem?_cons_succ, List.getElem?_nil, List.set_cons_zero, List.set_cons_succ, List.set_nil, Option.bind_some, Option.bind_none, Option.map_some, Option.map_none, if_true, if_false, ↓reduceIte, decide_true, decide_false, Bool.false_eq_true, Bool.true_and, Bool.and_true, Bool.false_and, Bool.and_false, Bool.not_true, Bool.not_false, Bool.true_or, Bool.or_true, Bool.false_or, Bool.or_false, List.cons_append, List.nil_append, List.length_cons, List.length_nil, List.map_cons, List.map_nil, List.replicate_succ, List.replicate_zero, Nat.reduceAdd, Nat.reduceSub, Nat.reduceLT, Nat.reduceEqDiff, Nat.reduceLeDiff, Int.reduceAdd, Int.reduceSub, Int.reduceMul, Int.reduceNeg, Int.reduceLT, Int.reduceLE, Int.reduceEq, Int.reduceMod, Int.reduceDiv, Int.reduceToNat, Nat.add_zero, Nat.zero_add, List.contains_cons, List.contains_nil, Nat.reduceBEq, beq_self_eq_true, reduceCtorEq, and_true, true_and, and_false, false_and, not_true_eq_false, not_false_eq_true, Dv.mulOk_sz, frz_sO, hh]), h2, List.all_cons, c, Bool.true_and]
      | false =>
        refine ⟨none, ?_⟩
        rw [List.all_cons, c, Bool.false_and]
        have hb : b1_in_all [s0, some (sO p), some (sO s)] = some (.rt (.bl false)) := by unfold b1_in_all; rw [c] at hh; simp (config := {decide := true}) only [Dv.get, Dv.xV, Dv.xC, Dv.frz, Dv.frzs, Dv.flat, Dv.flats, Dv.clean, Dv.cleans, Dv.frzSlot, Dv.frz1, Dv.frzAt, Dv.put, Dv.addD, Dv.subD, Dv.mulD, Dv.fdivD, Dv.modD, Dv.negD, Dv.x2, Dv.x1, Dv.xsN, Dv.xsC, Dv.xTup, Dv.xLst, Dv.xCall, Dv.asB, Dv.tOf, Dv.tNot, Dv.tAnd, Dv.tOr, Dv.xB, Dv.xIf, Dv.cmpI, Dv.ltD, Dv.leD, Dv.gtD, Dv.geD, Dv.xAnd, Dv.xOr, Dv.xNot, Dv.sN, Dv.sSeq, Dv.sSet, Dv.sRet, Dv.sRetV, Dv.sIf, Dv.sBk, Dv.sCt, Dv.gN, Dv.gsN, Dv.gsC, Dv.gT, Dv.fnD, Dv.ixD, Dv.slD, Dv.pN, Dv.pI, Dv.xSl, Dv.lenD', Dv.intD, Dv.maxD, Dv.minD, Dv.allD, Dv.anyD, Dv.allB, Dv.listD, Dv.xF, Dv.isiD, Dv.eqD, Dv.neD, Dv.isND, Dv.notND, Dv.isN2, Dv.notN2, Dv.sApp, Dv.itL, Dv.itR1, Dv.itR2, Dv.rngL, Dv.zipL, Dv.zipO, Dv.itZ, Dv.enuL, Dv.enuO, Dv.itEn, Dv.wipeD, Dv.keepD, Dv.tY, Dv.sAsg, Dv.sPar, Dv.sPar3, Dv.sAugI, Dv.sDrop, Dv.at_20, Dv.at_21, Dv.at_30, Dv.at_31, Dv.at_32, Dv.at_40, Dv.at_41, Dv.at_42, Dv.at_43, Dv.at_10, Dv.frzs_ints, Dv.cleans_ints, Dv.le_sLine, Dv.sh_non, Dv.sh_bl, Dv.sh_int, Dv.sh_tup, Dv.sh_lst, Dv.eqo_int, Dv.eqo_bl, Dv.eqo_tup, Dv.eqo_lst, Dv.eqos_nil, Dv.eqos_cons, List.all_cons, List.all_nil, Dv.beq_tt, Dv.beq_ff, Dv.beq_tf, Dv.beq_ft, List.getElem?_cons_zero, List.getElem?_cons_succ, List.getElem?_nil, List.set_cons_zero, List.set_cons_succ, List.set_nil, Option.bind_some, Option.bind_none, Option.map_some, Option.map_none, if_true, if_false, ↓reduceIte, decide_true, decide_false, Bool.false_eq_true, Bool.true_and, Bool.and_true, Bool.false_and, Bool.and_false, Bool.not_true, Bool.not_false, Bool.true_or, Bool.or_true, Bool.false_or, Bool.or_false, List.cons_append, List.nil_append, List.length_cons, List.length_nil, List.map_cons, List.map_nil, List.replicate_succ, List.replicate_zero, Nat.reduceAdd, Nat.reduceSub, Nat.reduceLT, Nat.reduceEqDiff, Nat.reduceLeDiff, Int.reduceAdd, Int.reduceSub, Int.reduceMul, Int.reduceNeg, Int.reduceLT, Int.reduceLE, Int.reduceEq, Int.reduceMod, Int.reduceDiv, Int.reduceToNat, Nat.add_zero, Nat.zero_add, List.contains_cons, List.contains_nil, Nat.reduceBEq, beq_self_eq_true, reduceCtorEq, and_true, true_and, and_false, false_and, not_true_eq_false, not_false_eq_true, Dv.mulOk_sz, frz_sO, hh]
        rw [List.map_cons]
        unfold forD
        show (match b1_in_all [s0, some (sO p), some (sO s)] with | some (Fl.nx τ') => forD (gN 2) b1_in_all (R.map sO) τ' | some (.ct τ') => forD (gN 2) b1_in_all (R.map sO) τ' | some (.bk τ') => some (.nx τ') | some (.rt o) => some (.rt o) | none => none) = _
        rw [hb]; rfl
  obtain ⟨o2', h⟩ := loop S none (some (.lst false (S.map sO))) hS
  unfold f_in_all s_in_all
  cases c : S.all (holdB p) with
  | true =>
    rw [c, if_pos rfl] at h
    refine fnD_of (τ := [some (.lst false (S.map sO)), some (sO p), none]) rfl (by show [some (O.lst false (frzs (S.map sO))), some (frz (sO p))] ++ _ = _; rw [frzs_sO]; rfl) ?_
    refine seq_nx (τ' := [some (.lst false (S.map sO)), some (sO p), o2']) (by simp (config := {decide := true}) only [Dv.get, Dv.xV, Dv.xC, Dv.frz, Dv.frzs, Dv.flat, Dv.flats, Dv.clean, Dv.cleans, Dv.frzSlot, Dv.frz1, Dv.frzAt, Dv.put, Dv.addD, Dv.subD, Dv.mulD, Dv.fdivD, Dv.modD, Dv.negD, Dv.x2, Dv.x1, Dv.xsN, Dv.xsC, Dv.xTup, Dv.xLst, Dv.xCall, Dv.asB, Dv.tOf, Dv.tNot, Dv.tAnd, Dv.tOr, Dv.xB, Dv.xIf, Dv.cmpI, Dv.ltD, Dv.leD, Dv.gtD, Dv.geD, Dv.xAnd, Dv.xOr, Dv.xNot, Dv.sN, Dv.sSeq, Dv.sSet, Dv.sRet, Dv.sRetV, Dv.sIf, Dv.sBk, Dv.sCt, Dv.gN, Dv.gsN, Dv.gsC, Dv.gT, Dv.fnD, Dv.ixD, Dv.slD, Dv.pN, Dv.pI, Dv.xSl, Dv.lenD', Dv.intD, Dv.maxD, Dv.minD, Dv.allD, Dv.anyD, Dv.allB, Dv.listD, Dv.xF, Dv.isiD, Dv.eqD, Dv.neD, Dv.isND, Dv.notND, Dv.isN2, Dv.notN2, Dv.sApp, Dv.itL, Dv.itR1, Dv.itR2, Dv.rngL, Dv.zipL, Dv.zipO, Dv.itZ, Dv.enuL, Dv.enuO, Dv.itEn, Dv.wipeD, Dv.keepD, Dv.tY, Dv.sAsg, Dv.sPar, Dv.sPar3, Dv.sAugI, Dv.sDrop, Dv.at_20, Dv.at_21, Dv.at_30, Dv.at_31, Dv.at_32, Dv.at_40, Dv.at_41, Dv.at_42, Dv.at_43, Dv.at_10, Dv.frzs_ints, Dv.cleans_ints, Dv.le_sLine, Dv.sh_non, Dv.sh_bl, Dv.sh_int, Dv.sh_tup, Dv.sh_lst, Dv.eqo_int, Dv.eqo_bl, Dv.eqo_tup, Dv.eqo_lst, Dv.eqos_nil, Dv.eqos_cons, List.all_cons, List.all_nil, Dv.beq_tt, Dv.beq_ff, Dv.beq_tf, Dv.beq_ft, List.getElem?_cons_zero, List.getElem?_cons_succ, List.getElem?_nil, List.set_cons_zero, List.set_cons_succ, List.set_nil, Option.bind_some, Option.bind_none, Option.map_some, Option.map_none, if_true, if_false, ↓reduceIte, decide_true, decide_false, Bool.false_eq_true, Bool.true_and, Bool.and_true, Bool.false_and, Bool.and_false, Bool.not_true, Bool.not_false, Bool.true_or, Bool.or_true, Bool.false_or, Bool.or_false, List.cons_append, List.nil_append, List.length_cons, List.length_nil, List.map_cons, List.map_nil, List.replicate_succ, List.replicate_zero, Nat.reduceAdd, Nat.reduceSub, Nat.reduceLT, Nat.reduceEqDiff, Nat.reduceLeDiff, Int.reduceAdd, Int.reduceSub, Int.reduceMul, Int.reduceNeg, Int.reduceLT, Int.reduceLE, Int.reduceEq, Int.reduceMod, Int.reduceDiv, Int.reduceToNat, Nat.add_zero, Nat.zero_add, List.contains_cons, List.contains_nil, Nat.reduceBEq, beq_self_eq_true, reduceCtorEq, and_true, true_and, and_false, false_and, not_true_eq_false, not_false_eq_true, Dv.mulOk_sz, sFor, frzs_sO, h]) ?_
    simp (config := {decide := true}) only [Dv.get, Dv.xV, Dv.xC, Dv.frz, Dv.frzs, Dv.flat, Dv.flats, Dv.clean, Dv.cleans, Dv.frzSlot, Dv.frz1, Dv.frzAt, Dv.put, Dv.addD, Dv.subD, Dv.mulD, Dv.fdivD, Dv.modD, Dv.negD, Dv.x2, Dv.x1, Dv.xsN, Dv.xsC, Dv.xTup, Dv.xLst, Dv.xCall, Dv.asB, Dv.tOf, Dv.tNot, Dv.tAnd, Dv.tOr, Dv.xB, Dv.xIf, Dv.cmpI, Dv.ltD, Dv.leD, Dv.gtD, Dv.geD, Dv.xAnd, Dv.xOr, Dv.xNot, Dv.sN, Dv.sSeq, Dv.sSet, Dv.sRet, Dv.sRetV, Dv.sIf, Dv.sBk, Dv.sCt, Dv.gN, Dv.gsN, Dv.gsC, Dv.gT, Dv.fnD, Dv.ixD, Dv.slD, Dv.pN, Dv.pI, Dv.xSl, Dv.lenD', Dv.intD, Dv.maxD, Dv.minD, Dv.allD, Dv.anyD, Dv.allB, Dv.listD, Dv.xF, Dv.isiD, Dv.eqD, Dv.neD, Dv.isND, Dv.notND, Dv.isN2, Dv.notN2, Dv.sApp, Dv.itL, Dv.itR1, Dv.itR2, Dv.rngL, Dv.zipL, Dv.zipO, Dv.itZ, Dv.enuL, Dv.enuO, Dv.itEn, Dv.wipeD, Dv.keepD, Dv.tY, Dv.sAsg, Dv.sPar, Dv.sPar3, Dv.sAugI, Dv.sDrop, Dv.at_20, Dv.at_21, Dv.at_30, Dv.at_31, Dv.at_32, Dv.at_40, Dv.at_41, Dv.at_42, Dv.at_43, Dv.at_10, Dv.frzs_ints, Dv.cleans_ints, Dv.le_sLine, Dv.sh_non, Dv.sh_bl, Dv.sh_int, Dv.sh_tup, Dv.sh_lst, Dv.eqo_int, Dv.eqo_bl, Dv.eqo_tup, Dv.eqo_lst, Dv.eqos_nil, Dv.eqos_cons, List.all_cons, List.all_nil, Dv.beq_tt, Dv.beq_ff, Dv.beq_tf, Dv.beq_ft, List.getElem?_cons_zero, List.getElem?_cons_succ, List.getElem?_nil, List.set_cons_zero, List.set_cons_succ, List.set_nil, Option.bind_some, Option.bind_none, Option.map_some, Option.map_none, if_true, if_false, ↓reduceIte, decide_true, decide_false, Bool.false_eq_true, Bool.true_and, Bool.and_true, Bool.false_and, Bool.and_false, Bool.not_true, Bool.not_false, Bool.true_or, Bool.or_true, Bool.false_or, Bool.or_false, List.cons_append, List.nil_append, List.length_cons, List.length_nil, List.map_cons, List.map_nil, List.replicate_succ, List.replicate_zero, Nat.reduceAdd, Nat.reduceSub, Nat.reduceLT, Nat.reduceEqDiff, Nat.reduceLeDiff, Int.reduceAdd, Int.reduceSub, Int.reduceMul, Int.reduceNeg, Int.reduceLT, Int.reduceLE, Int.reduceEq, Int.reduceMod, Int.reduceDiv, Int.reduceToNat, Nat.add_zero, Nat.zero_add, List.contains_cons, List.contains_nil, Nat.reduceBEq, beq_self_eq_true, reduceCtorEq, and_true, true_and, and_false, false_and, not_true_eq_false, not_false_eq_true, Dv.mulOk_sz]
  | false =>
    rw [c, if_neg Bool.false_ne_true] at h
    refine fnD_of (τ := [some (.lst false (S.map sO)), some (sO p), none]) rfl (by show [some (O.lst false (frzs (S.map sO))), some (frz (sO p))] ++ _ = _; rw [frzs_sO]; rfl) ?_
    exact seq_rt (by simp (config := {decide := true}) only [Dv.get, Dv.xV, Dv.xC, Dv.frz, Dv.frzs, Dv.flat, Dv.flats, Dv.clean, Dv.cleans, Dv.frzSlot, Dv.frz1, Dv.frzAt, Dv.put, Dv.addD, Dv.subD, Dv.mulD, Dv.fdivD, Dv.modD, Dv.negD, Dv.x2, Dv.x1, Dv.xsN, Dv.xsC, Dv.xTup, Dv.xLst, Dv.xCall, Dv.asB, Dv.tOf, Dv.tNot, Dv.tAnd, Dv.tOr, Dv.xB, Dv.xIf, Dv.cmpI, Dv.ltD, Dv.leD, Dv.gtD, Dv.geD, Dv.xAnd, Dv.xOr, Dv.xNot, Dv.sN, Dv.sSeq, Dv.sSet, Dv.sRet, Dv.sRetV, Dv.sIf, Dv.sBk, Dv.sCt, Dv.gN, Dv.gsN, Dv.gsC, Dv.gT, Dv.fnD, Dv.ixD, Dv.slD, Dv.pN, Dv.pI, Dv.xSl, Dv.lenD', Dv.intD, Dv.maxD, Dv.minD, Dv.allD, Dv.anyD, Dv.allB, Dv.listD, Dv.xF, Dv.isiD, Dv.eqD, Dv.neD, Dv.isND, Dv.notND, Dv.isN2, Dv.notN2, Dv.sApp, Dv.itL, Dv.itR1, Dv.itR2, Dv.rngL, Dv.zipL, Dv.zipO, Dv.itZ, Dv.enuL, Dv.enuO, Dv.itEn, Dv.wipeD, Dv.keepD, Dv.tY, Dv.sAsg, Dv.sPar, Dv.sPar3, Dv.sAugI, Dv.sDrop, Dv.at_20, Dv.at_21, Dv.at_30, Dv.at_31, Dv.at_32, Dv.at_40, Dv.at_41, Dv.at_42, Dv.at_43, Dv.at_10, Dv.frzs_ints, Dv.cleans_ints, Dv.le_sLine, Dv.sh_non, Dv.sh_bl, Dv.sh_int, Dv.sh_tup, Dv.sh_lst, Dv.eqo_int, Dv.eqo_bl, Dv.eqo_tup, Dv.eqo_lst, Dv.eqos_nil, Dv.eqos_cons, List.all_cons, List.all_nil, Dv.beq_tt, Dv.beq_ff, Dv.beq_tf, Dv.beq_ft, List.getElem?_cons_zero, List.getElem?_cons_succ, List.getElem?_nil, List.set_cons_zero, List.set_cons_succ, List.set_nil, Option.bind_some, Option.bind_none, Option.map_some, Option.map_none, if_true, if_false, ↓reduceIte, decide_true, decide_false, Bool.false_eq_true, Bool.true_and, Bool.and_true, Bool.false_and, Bool.and_false, Bool.not_true, Bool.not_false, Bool.true_or, Bool.or_true, Bool.false_or, Bool.or_false, List.cons_append, List.nil_append, List.length_cons, List.length_nil, List.map_cons, List.map_nil, List.replicate_succ, List.replicate_zero, Nat.reduceAdd, Nat.reduceSub, Nat.reduceLT, Nat.reduceEqDiff, Nat.reduceLeDiff, Int.reduceAdd, Int.reduceSub, Int.reduceMul, Int.reduceNeg, Int.reduceLT, Int.reduceLE, Int.reduceEq, Int.reduceMod, Int.reduceDiv, Int.reduceToNat, Nat.add_zero, Nat.zero_add, List.contains_cons, List.contains_nil, Nat.reduceBEq, beq_self_eq_true, reduceCtorEq, and_true, true_and, and_false, false_and, not_true_eq_false, not_false_eq_true, Dv.mulOk_sz, sFor, frzs_sO, h])
/-- all crossings, each once, in their order -/
def crsA (S : List S3) : List S3 := (prs S).filterMap fun p => crS p.1 p.2
def crsD (S : List S3) : List S3 := addA [] (crsA S)
theorem enu_sO : ∀ (i : Nat) (R : List S3), enuL i (R.map sO) = (R.zipIdx i).map fun p => O.tup [.int p.2, sO p.1]
  | _, [] => rfl
  | i, p :: R => by
    show O.tup [.int i, sO p] :: enuL (i + 1) (R.map sO) = _
    rw [enu_sO (i + 1) R, List.zipIdx_cons]; rfl
theorem frzs_enu (i : Nat) (R : List S3) : frzs (enuL i (R.map sO)) = enuL i (R.map sO) := frzs_flat' fun x h => by
  rw [enu_sO] at h
  obtain ⟨p, _, rfl⟩ := List.mem_map.mp h
  rfl
theorem crs_in (s0 : Option O) (p : S3) (hp : Bk 1 p) : ∀ (R : List S3) (D : List S3) (o2 o4 o5 : Option O), (∀ s ∈ R, Bk 1 s) → D.length + R.length ≤ 100000 →
    ∃ o4' o5', forD (gN 4) b1_crossings (R.map sO) [s0, some (.dT true (D.map kS) (tru D.length)), o2, some (sO p), o4, o5] =
      some (.nx [s0, some (.dT true ((addA D (R.filterMap (crS p))).map kS) (tru (addA D (R.filterMap (crS p))).length)), o2, some (sO p), o4', o5']) := by
  intro R
  induction R with
  | nil => exact fun D o2 o4 o5 _ _ => ⟨o4, o5, rfl⟩
  | cons q R ih =>
    intro D o2 o4 o5 hR hl
    rw [List.length_cons] at hl
    have hc := crossS_eq hp (hR q List.mem_cons_self)
    have hR' : ∀ s ∈ R, Bk 1 s := fun s h => hR s (List.mem_cons_of_mem _ h)
    have hf : ∀ X, X = frz X → True := fun _ _ => trivial
    cases c : crS p q with
    | none =>
      rw [c] at hc
      obtain ⟨o4', o5', h2⟩ := ih D o2 (some (sO q)) (some .non) hR' (by omega)
      refine ⟨o4', o5', ?_⟩
      rw [List.map_cons, forD_cons (τ1 := [s0, some (.dT true (D.map kS) (tru D.length)), o2, some (sO p), some (sO q), o5]) (τ' := [s0, some (.dT true (D.map kS) (tru D.length)), o2, some (sO p), some (sO q), some .non]) rfl (by
        unfold b1_crossings
        simp (config := {decide := true}) only [Dv.get, Dv.xV, Dv.xC, Dv.frz, Dv.frzs, Dv.flat, Dv.flats, Dv.clean, Dv.cleans, Dv.frzSlot, Dv.frz1, Dv.frzAt, Dv.put, Dv.addD, Dv.subD, Dv.mulD, Dv.fdivD, Dv.modD, Dv.negD, Dv.x2, Dv.x1, Dv.xsN, Dv.xsC, Dv.xTup, Dv.xLst, Dv.xCall, Dv.asB, Dv.tOf, Dv.tNot, Dv.tAnd, Dv.tOr, Dv.xB, Dv.xIf, Dv.cmpI, Dv.ltD, Dv.leD, Dv.gtD, Dv.geD, Dv.xAnd, Dv.xOr, Dv.xNot, Dv.sN, Dv.sSeq, Dv.sSet, Dv.sRet, Dv.sRetV, Dv.sIf, Dv.sBk, Dv.sCt, Dv.gN, Dv.gsN, Dv.gsC, Dv.gT, Dv.fnD, Dv.ixD, Dv.slD, Dv.pN, Dv.pI, Dv.xSl, Dv.lenD', Dv.intD, Dv.maxD, Dv.minD, Dv.allD, Dv.anyD, Dv.allB, Dv.listD, Dv.xF, Dv.isiD, Dv.eqD, Dv.neD, Dv.isND, Dv.notND, Dv.isN2, Dv.notN2, Dv.sApp, Dv.itL, Dv.itR1, Dv.itR2, Dv.rngL, Dv.zipL, Dv.zipO, Dv.itZ, Dv.enuL, Dv.enuO, Dv.itEn, Dv.wipeD, Dv.keepD, Dv.tY, Dv.sAsg, Dv.sPar, Dv.sPar3, Dv.sAugI, Dv.sDrop, Dv.at_20, Dv.at_21, Dv.at_30, Dv.at_31, Dv.at_32, Dv.at_40, Dv.at_41, Dv.at_42, Dv.at_43, Dv.at_10, Dv.frzs_ints, Dv.cleans_ints, Dv.le_sLine, Dv.sh_non, Dv.sh_bl, Dv.sh_int, Dv.sh_tup, Dv.sh_lst, Dv.eqo_int, Dv.eqo_bl, Dv.eqo_tup, Dv.eqo_lst, Dv.eqos_nil, Dv.eqos_cons, List.all_cons, List.all_nil, Dv.beq_tt, Dv.beq_ff, Dv.beq_tf, Dv.beq_ft, List.getElem?_cons_zero, List.getElem?_cons_succ, List.getElem?_nil, List.set_cons_zero, List.set_cons_succ, List.set_nil, Option.bind_some, Option.bind_none, Option.map_some, Option.map_none, if_true, if_false, ↓reduceIte, decide_true, decide_false, Bool.false_eq_true, Bool.true_and, Bool.and_true, Bool.false_and, Bool.and_false, Bool.not_true, Bool.not_false, Bool.true_or, Bool.or_true, Bool.false_or, Bool.or_false, List.cons_append, List.nil_append, List.length_cons, List.length_nil, List.map_cons, List.map_nil, List.replicate_succ, List.replicate_zero, Nat.reduceAdd, Nat.reduceSub, Nat.reduceLT, Nat.reduceEqDiff, Nat.reduceLeDiff, Int.reduceAdd, Int.reduceSub, Int.reduceMul, Int.reduceNeg, Int.reduceLT, Int.reduceLE, Int.reduceEq, Int.reduceMod, Int.reduceDiv, Int.reduceToNat, Nat.add_zero, Nat.zero_add, List.contains_cons, List.contains_nil, Nat.reduceBEq, beq_self_eq_true, reduceCtorEq, and_true, true_and, and_false, false_and, not_true_eq_false, not_false_eq_true, Dv.mulOk_sz, frz_sO, hc, opO]), h2, List.filterMap_cons_none c]
    | some s =>
      rw [c] at hc
      obtain ⟨o4', o5', h2⟩ := ih (addN D s) o2 (some (sO q)) (some (sO s)) hR' (by have := addN_len D s; omega)
      refine ⟨o4', o5', ?_⟩
      rw [List.map_cons, forD_cons (τ1 := [s0, some (.dT true (D.map kS) (tru D.length)), o2, some (sO p), some (sO q), o5]) (τ' := [s0, some (.dT true ((addN D s).map kS) (tru (addN D s).length)), o2, some (sO p), some (sO q), some (sO s)]) rfl (by
        unfold b1_crossings
        refine seq_nx (τ' := [s0, some (.dT true (D.map kS) (tru D.length)), o2, some (sO p), some (sO q), some (sO s)]) (by simp (config := {decide := true}) only [Dv.get, Dv.xV, Dv.xC, Dv.frz, Dv.frzs, Dv.flat, Dv.flats, Dv.clean, Dv.cleans, Dv.frzSlot, Dv.frz1, Dv.frzAt, Dv.put, Dv.addD, Dv.subD, Dv.mulD, Dv.fdivD, Dv.modD, Dv.negD, Dv.x2, Dv.x1, Dv.xsN, Dv.xsC, Dv.xTup, Dv.xLst, Dv.xCall, Dv.asB, Dv.tOf, Dv.tNot, Dv.tAnd, Dv.tOr, Dv.xB, Dv.xIf, Dv.cmpI, Dv.ltD, Dv.leD, Dv.gtD, Dv.geD, Dv.xAnd, Dv.xOr, Dv.xNot, Dv.sN, Dv.sSeq, Dv.sSet, Dv.sRet, Dv.sRetV, Dv.sIf, Dv.sBk, Dv.sCt, Dv.gN, Dv.gsN, Dv.gsC, Dv.gT, Dv.fnD, Dv.ixD, Dv.slD, Dv.pN, Dv.pI, Dv.xSl, Dv.lenD', Dv.intD, Dv.maxD, Dv.minD, Dv.allD, Dv.anyD, Dv.allB, Dv.listD, Dv.xF, Dv.isiD, Dv.eqD, Dv.neD, Dv.isND, Dv.notND, Dv.isN2, Dv.notN2, Dv.sApp, Dv.itL, Dv.itR1, Dv.itR2, Dv.rngL, Dv.zipL, Dv.zipO, Dv.itZ, Dv.enuL, Dv.enuO, Dv.itEn, Dv.wipeD, Dv.keepD, Dv.tY, Dv.sAsg, Dv.sPar, Dv.sPar3, Dv.sAugI, Dv.sDrop, Dv.at_20, Dv.at_21, Dv.at_30, Dv.at_31, Dv.at_32, Dv.at_40, Dv.at_41, Dv.at_42, Dv.at_43, Dv.at_10, Dv.frzs_ints, Dv.cleans_ints, Dv.le_sLine, Dv.sh_non, Dv.sh_bl, Dv.sh_int, Dv.sh_tup, Dv.sh_lst, Dv.eqo_int, Dv.eqo_bl, Dv.eqo_tup, Dv.eqo_lst, Dv.eqos_nil, Dv.eqos_cons, List.all_cons, List.all_nil, Dv.beq_tt, Dv.beq_ff, Dv.beq_tf, Dv.beq_ft, List.getElem?_cons_zero, List.getElem?_cons_succ, List.getElem?_nil, List.set_cons_zero, List.set_cons_succ, List.set_nil, Option.bind_some, Option.bind_none, Option.map_some, Option.map_none, if_true, if_false, ↓reduceIte, decide_true, decide_false, Bool.false_eq_true, Bool.true_and, Bool.and_true, Bool.false_and, Bool.and_false, Bool.not_true, Bool.not_false, Bool.true_or, Bool.or_true, Bool.false_or, Bool.or_false, List.cons_append, List.nil_append, List.length_cons, List.length_nil, List.map_cons, List.map_nil, List.replicate_succ, List.replicate_zero, Nat.reduceAdd, Nat.reduceSub, Nat.reduceLT, Nat.reduceEqDiff, Nat.reduceLeDiff, Int.reduceAdd, Int.reduceSub, Int.reduceMul, Int.reduceNeg, Int.reduceLT, Int.reduceLE, Int.reduceEq, Int.reduceMod, Int.reduceDiv, Int.reduceToNat, Nat.add_zero, Nat.zero_add, List.contains_cons, List.contains_nil, Nat.reduceBEq, beq_self_eq_true, reduceCtorEq, and_true, true_and, and_false, false_and, not_true_eq_false, not_false_eq_true, Dv.mulOk_sz, frz_sO, hc, opO, clean_sO]) ?_
        refine if_t (by simp only [sO, Dv.get, Dv.xV, Dv.xC, Dv.frz, Dv.frzs, Dv.flat, Dv.flats, Dv.clean, Dv.cleans, Dv.frzSlot, Dv.frz1, Dv.frzAt, Dv.put, Dv.addD, Dv.subD, Dv.mulD, Dv.fdivD, Dv.modD, Dv.negD, Dv.x2, Dv.x1, Dv.xsN, Dv.xsC, Dv.xTup, Dv.xLst, Dv.xCall, Dv.asB, Dv.tOf, Dv.tNot, Dv.tAnd, Dv.tOr, Dv.xB, Dv.xIf, Dv.cmpI, Dv.ltD, Dv.leD, Dv.gtD, Dv.geD, Dv.xAnd, Dv.xOr, Dv.xNot, Dv.sN, Dv.sSeq, Dv.sSet, Dv.sRet, Dv.sRetV, Dv.sIf, Dv.sBk, Dv.sCt, Dv.gN, Dv.gsN, Dv.gsC, Dv.gT, Dv.fnD, Dv.ixD, Dv.slD, Dv.pN, Dv.pI, Dv.xSl, Dv.lenD', Dv.intD, Dv.maxD, Dv.minD, Dv.allD, Dv.anyD, Dv.allB, Dv.listD, Dv.xF, Dv.isiD, Dv.eqD, Dv.neD, Dv.isND, Dv.notND, Dv.isN2, Dv.notN2, Dv.sApp, Dv.itL, Dv.itR1, Dv.itR2, Dv.rngL, Dv.zipL, Dv.zipO, Dv.itZ, Dv.enuL, Dv.enuO, Dv.itEn, Dv.wipeD, Dv.keepD, Dv.tY, Dv.sAsg, Dv.sPar, Dv.sPar3, Dv.sAugI, Dv.sDrop, Dv.at_20, Dv.at_21, Dv.at_30, Dv.at_31, Dv.at_32, Dv.at_40, Dv.at_41, Dv.at_42, Dv.at_43, Dv.at_10, Dv.frzs_ints, Dv.cleans_ints, Dv.le_sLine, Dv.sh_non, Dv.sh_bl, Dv.sh_int, Dv.sh_tup, Dv.sh_lst, Dv.eqo_int, Dv.eqo_bl, Dv.eqo_tup, Dv.eqo_lst, Dv.eqos_nil, Dv.eqos_cons, List.all_cons, List.all_nil, Dv.beq_tt, Dv.beq_ff, Dv.beq_tf, Dv.beq_ft, List.getElem?_cons_zero, List.getElem?_cons_succ, List.getElem?_nil, List.set_cons_zero, List.set_cons_succ, List.set_nil, Option.bind_some, Option.bind_none, Option.map_some, Option.map_none, if_true, if_false, ↓reduceIte, decide_true, decide_false, Bool.false_eq_true, Bool.true_and, Bool.and_true, Bool.false_and, Bool.and_false, Bool.not_true, Bool.not_false, Bool.true_or, Bool.or_true, Bool.false_or, Bool.or_false, List.cons_append, List.nil_append, List.length_cons, List.length_nil, List.map_cons, List.map_nil, List.replicate_succ, List.replicate_zero, Nat.reduceAdd, Nat.reduceSub, Nat.reduceLT, Nat.reduceEqDiff, Nat.reduceLeDiff, Int.reduceAdd, Int.reduceSub, Int.reduceMul, Int.reduceNeg, Int.reduceLT, Int.reduceLE, Int.reduceEq, Int.reduceMod, Int.reduceDiv, Int.reduceToNat, Nat.add_zero, Nat.zero_add, List.contains_cons, List.contains_nil, Nat.reduceBEq, beq_self_eq_true, reduceCtorEq, and_true, true_and, and_false, false_and, not_true_eq_false, not_false_eq_true]) ?_
        exact sDput_ok rfl rfl rfl (Nat.lt_of_le_of_lt (show D.length ≤ 100000 by omega) (by decide))), h2, List.filterMap_cons_some c]
      rfl
theorem addA_app (D L M : List S3) : addA D (L ++ M) = addA (addA D L) M := List.foldl_append ..
theorem crs_out (S : List S3) (hS : ∀ s ∈ S, Bk 1 s) (hn : S.length ≤ 200) : ∀ (R A D : List S3) (o2 o3 o4 o5 : Option O), A ++ R = S → D.length ≤ 200 * A.length →
    ∃ o2' o3' o4' o5', forD (gT 2 (gsC (gN 2) (gsC (gN 3) gsN))) b2_crossings (enuL A.length (R.map sO)) [some (.lst false (S.map sO)), some (.dT true (D.map kS) (tru D.length)), o2, o3, o4, o5] =
      some (.nx [some (.lst false (S.map sO)), some (.dT true ((addA D ((prs R).filterMap fun p => crS p.1 p.2)).map kS) (tru (addA D ((prs R).filterMap fun p => crS p.1 p.2)).length)), o2', o3', o4', o5']) := by
  intro R
  induction R with
  | nil => exact fun A D o2 o3 o4 o5 _ _ => ⟨o2, o3, o4, o5, rfl⟩
  | cons p R ih =>
    intro A D o2 o3 o4 o5 e hD
    have hlS : A.length + (R.length + 1) = S.length := by rw [← e, List.length_append, List.length_cons]
    have hp : Bk 1 p := hS p (by rw [← e]; simp)
    have hR : ∀ s ∈ R, Bk 1 s := fun s h => hS s (by rw [← e]; simp [h])
    have hcut : cut (S.map sO) (some ((A.length : Int) + 1)) none = R.map sO := by
      rw [cut_map]
      have := cut_from (L := S) (k := A.length + 1)
      rw [show ((A.length + 1 : Nat) : Int) = (A.length : Int) + 1 by omega] at this
      rw [this, ← e]
      congr 1
      rw [List.drop_append]
      simp
    obtain ⟨o4', o5', h1⟩ := crs_in (some (.lst false (S.map sO))) p hp R D (some (.int A.length)) o4 o5 hR (by omega)
    have hlen : (addA D (R.filterMap (crS p))).length ≤ D.length + R.length := Nat.le_trans (addA_len _ _) (Nat.add_le_add_left (List.length_filterMap_le _ _) _)
    obtain ⟨o2'', o3'', o4'', o5'', h2⟩ := ih (A ++ [p]) (addA D (R.filterMap (crS p))) (some (.int A.length)) (some (sO p)) o4' o5' (by rw [List.append_assoc]; exact e) (by rw [List.length_append]; show _ ≤ 200 * (A.length + 1); omega)
    refine ⟨o2'', o3'', o4'', o5'', ?_⟩
    have hb : b2_crossings [some (.lst false (S.map sO)), some (.dT true (D.map kS) (tru D.length)), some (.int A.length), some (sO p), o4, o5] = some (.nx [some (.lst false (S.map sO)), some (.dT true ((addA D (R.filterMap (crS p))).map kS) (tru (addA D (R.filterMap (crS p))).length)), some (.int A.length), some (sO p), o4', o5']) := by
      unfold b2_crossings
      simp (config := {decide := true}) only [Dv.get, Dv.xV, Dv.xC, Dv.frz, Dv.frzs, Dv.flat, Dv.flats, Dv.clean, Dv.cleans, Dv.frzSlot, Dv.frz1, Dv.frzAt, Dv.put, Dv.addD, Dv.subD, Dv.mulD, Dv.fdivD, Dv.modD, Dv.negD, Dv.x2, Dv.x1, Dv.xsN, Dv.xsC, Dv.xTup, Dv.xLst, Dv.xCall, Dv.asB, Dv.tOf, Dv.tNot, Dv.tAnd, Dv.tOr, Dv.xB, Dv.xIf, Dv.cmpI, Dv.ltD, Dv.leD, Dv.gtD, Dv.geD, Dv.xAnd, Dv.xOr, Dv.xNot, Dv.sN, Dv.sSeq, Dv.sSet, Dv.sRet, Dv.sRetV, Dv.sIf, Dv.sBk, Dv.sCt, Dv.gN, Dv.gsN, Dv.gsC, Dv.gT, Dv.fnD, Dv.ixD, Dv.slD, Dv.pN, Dv.pI, Dv.xSl, Dv.lenD', Dv.intD, Dv.maxD, Dv.minD, Dv.allD, Dv.anyD, Dv.allB, Dv.listD, Dv.xF, Dv.isiD, Dv.eqD, Dv.neD, Dv.isND, Dv.notND, Dv.isN2, Dv.notN2, Dv.sApp, Dv.itL, Dv.itR1, Dv.itR2, Dv.rngL, Dv.zipL, Dv.zipO, Dv.itZ, Dv.enuL, Dv.enuO, Dv.itEn, Dv.wipeD, Dv.keepD, Dv.tY, Dv.sAsg, Dv.sPar, Dv.sPar3, Dv.sAugI, Dv.sDrop, Dv.at_20, Dv.at_21, Dv.at_30, Dv.at_31, Dv.at_32, Dv.at_40, Dv.at_41, Dv.at_42, Dv.at_43, Dv.at_10, Dv.frzs_ints, Dv.cleans_ints, Dv.le_sLine, Dv.sh_non, Dv.sh_bl, Dv.sh_int, Dv.sh_tup, Dv.sh_lst, Dv.eqo_int, Dv.eqo_bl, Dv.eqo_tup, Dv.eqo_lst, Dv.eqos_nil, Dv.eqos_cons, List.all_cons, List.all_nil, Dv.beq_tt, Dv.beq_ff, Dv.beq_tf, Dv.beq_ft, List.getElem?_cons_zero, List.getElem?_cons_succ, List.getElem?_nil, List.set_cons_zero, List.set_cons_succ, List.set_nil, Option.bind_some, Option.bind_none, Option.map_some, Option.map_none, if_true, if_false, ↓reduceIte, decide_true, decide_false, Bool.false_eq_true, Bool.true_and, Bool.and_true, Bool.false_and, Bool.and_false, Bool.not_true, Bool.not_false, Bool.true_or, Bool.or_true, Bool.false_or, Bool.or_false, List.cons_append, List.nil_append, List.length_cons, List.length_nil, List.map_cons, List.map_nil, List.replicate_succ, List.replicate_zero, Nat.reduceAdd, Nat.reduceSub, Nat.reduceLT, Nat.reduceEqDiff, Nat.reduceLeDiff, Int.reduceAdd, Int.reduceSub, Int.reduceMul, Int.reduceNeg, Int.reduceLT, Int.reduceLE, Int.reduceEq, Int.reduceMod, Int.reduceDiv, Int.reduceToNat, Nat.add_zero, Nat.zero_add, List.contains_cons, List.contains_nil, Nat.reduceBEq, beq_self_eq_true, reduceCtorEq, and_true, true_and, and_false, false_and, not_true_eq_false, not_false_eq_true, Dv.mulOk_sz, sFor, frzs_sO, hcut, h1]
    show forD _ _ (.tup [.int A.length, sO p] :: enuL (A.length + 1) (R.map sO)) _ = _
    rw [forD_cons (τ1 := [some (.lst false (S.map sO)), some (.dT true (D.map kS) (tru D.length)), some (.int A.length), some (sO p), o4, o5]) rfl hb]
    have e3 : (A ++ [p]).length = A.length + 1 := by rw [List.length_append]; rfl
    rw [e3] at h2
    rw [h2]
    have e4 : addA D ((prs (p :: R)).filterMap fun p => crS p.1 p.2) = addA (addA D (R.filterMap (crS p))) ((prs R).filterMap fun p => crS p.1 p.2) := by
      rw [← addA_app]
      congr 1
      show (R.map (fun b => (p, b)) ++ prs R).filterMap _ = _
      rw [List.filterMap_append, List.filterMap_map]; rfl
    rw [e4]
theorem crossings_eq (o : Bool) (S : List S3) (hS : ∀ s ∈ S, Bk 1 s) (hn : S.length ≤ 200) : f_crossings [.lst o (S.map sO)] = some (.lst true ((crsD S).map sO)) := by
  obtain ⟨o2, o3, o4, o5, h⟩ := crs_out S hS hn S [] [] none none none none rfl (Nat.le_refl _)
  unfold f_crossings s_crossings
  refine fnD_of (τ := [some (.lst false (S.map sO)), none, none, none, none, none]) rfl (by show [some (O.lst false (frzs (S.map sO)))] ++ _ = _; rw [frzs_sO]; rfl) ?_
  refine seq_nx (τ' := [some (.lst false (S.map sO)), some (.dT true [] []), none, none, none, none]) (by simp (config := {decide := true}) only [Dv.get, Dv.xV, Dv.xC, Dv.frz, Dv.frzs, Dv.flat, Dv.flats, Dv.clean, Dv.cleans, Dv.frzSlot, Dv.frz1, Dv.frzAt, Dv.put, Dv.addD, Dv.subD, Dv.mulD, Dv.fdivD, Dv.modD, Dv.negD, Dv.x2, Dv.x1, Dv.xsN, Dv.xsC, Dv.xTup, Dv.xLst, Dv.xCall, Dv.asB, Dv.tOf, Dv.tNot, Dv.tAnd, Dv.tOr, Dv.xB, Dv.xIf, Dv.cmpI, Dv.ltD, Dv.leD, Dv.gtD, Dv.geD, Dv.xAnd, Dv.xOr, Dv.xNot, Dv.sN, Dv.sSeq, Dv.sSet, Dv.sRet, Dv.sRetV, Dv.sIf, Dv.sBk, Dv.sCt, Dv.gN, Dv.gsN, Dv.gsC, Dv.gT, Dv.fnD, Dv.ixD, Dv.slD, Dv.pN, Dv.pI, Dv.xSl, Dv.lenD', Dv.intD, Dv.maxD, Dv.minD, Dv.allD, Dv.anyD, Dv.allB, Dv.listD, Dv.xF, Dv.isiD, Dv.eqD, Dv.neD, Dv.isND, Dv.notND, Dv.isN2, Dv.notN2, Dv.sApp, Dv.itL, Dv.itR1, Dv.itR2, Dv.rngL, Dv.zipL, Dv.zipO, Dv.itZ, Dv.enuL, Dv.enuO, Dv.itEn, Dv.wipeD, Dv.keepD, Dv.tY, Dv.sAsg, Dv.sPar, Dv.sPar3, Dv.sAugI, Dv.sDrop, Dv.at_20, Dv.at_21, Dv.at_30, Dv.at_31, Dv.at_32, Dv.at_40, Dv.at_41, Dv.at_42, Dv.at_43, Dv.at_10, Dv.frzs_ints, Dv.cleans_ints, Dv.le_sLine, Dv.sh_non, Dv.sh_bl, Dv.sh_int, Dv.sh_tup, Dv.sh_lst, Dv.eqo_int, Dv.eqo_bl, Dv.eqo_tup, Dv.eqo_lst, Dv.eqos_nil, Dv.eqos_cons, List.all_cons, List.all_nil, Dv.beq_tt, Dv.beq_ff, Dv.beq_tf, Dv.beq_ft, List.getElem?_cons_zero, List.getElem?_cons_succ, List.getElem?_nil, List.set_cons_zero, List.set_cons_succ, List.set_nil, Option.bind_some, Option.bind_none, Option.map_some, Option.map_none, if_true, if_false, ↓reduceIte, decide_true, decide_false, Bool.false_eq_true, Bool.true_and, Bool.and_true, Bool.false_and, Bool.and_false, Bool.not_true, Bool.not_false, Bool.true_or, Bool.or_true, Bool.false_or, Bool.or_false, List.cons_append, List.nil_append, List.length_cons, List.length_nil, List.map_cons, List.map_nil, List.replicate_succ, List.replicate_zero, Nat.reduceAdd, Nat.reduceSub, Nat.reduceLT, Nat.reduceEqDiff, Nat.reduceLeDiff, Int.reduceAdd, Int.reduceSub, Int.reduceMul, Int.reduceNeg, Int.reduceLT, Int.reduceLE, Int.reduceEq, Int.reduceMod, Int.reduceDiv, Int.reduceToNat, Nat.add_zero, Nat.zero_add, List.contains_cons, List.contains_nil, Nat.reduceBEq, beq_self_eq_true, reduceCtorEq, and_true, true_and, and_false, false_and, not_true_eq_false, not_false_eq_true, Dv.mulOk_sz, xDnew]) ?_
  refine seq_nx (τ' := [some (.lst false (S.map sO)), some (.dT true ((crsD S).map kS) (tru (crsD S).length)), o2, o3, o4, o5]) ?_ ?_
  · simp (config := {decide := true}) only [Dv.get, Dv.xV, Dv.xC, Dv.frz, Dv.frzs, Dv.flat, Dv.flats, Dv.clean, Dv.cleans, Dv.frzSlot, Dv.frz1, Dv.frzAt, Dv.put, Dv.addD, Dv.subD, Dv.mulD, Dv.fdivD, Dv.modD, Dv.negD, Dv.x2, Dv.x1, Dv.xsN, Dv.xsC, Dv.xTup, Dv.xLst, Dv.xCall, Dv.asB, Dv.tOf, Dv.tNot, Dv.tAnd, Dv.tOr, Dv.xB, Dv.xIf, Dv.cmpI, Dv.ltD, Dv.leD, Dv.gtD, Dv.geD, Dv.xAnd, Dv.xOr, Dv.xNot, Dv.sN, Dv.sSeq, Dv.sSet, Dv.sRet, Dv.sRetV, Dv.sIf, Dv.sBk, Dv.sCt, Dv.gN, Dv.gsN, Dv.gsC, Dv.gT, Dv.fnD, Dv.ixD, Dv.slD, Dv.pN, Dv.pI, Dv.xSl, Dv.lenD', Dv.intD, Dv.maxD, Dv.minD, Dv.allD, Dv.anyD, Dv.allB, Dv.listD, Dv.xF, Dv.isiD, Dv.eqD, Dv.neD, Dv.isND, Dv.notND, Dv.isN2, Dv.notN2, Dv.sApp, Dv.itL, Dv.itR1, Dv.itR2, Dv.rngL, Dv.zipL, Dv.zipO, Dv.itZ, Dv.enuL, Dv.enuO, Dv.itEn, Dv.wipeD, Dv.keepD, Dv.tY, Dv.sAsg, Dv.sPar, Dv.sPar3, Dv.sAugI, Dv.sDrop, Dv.at_20, Dv.at_21, Dv.at_30, Dv.at_31, Dv.at_32, Dv.at_40, Dv.at_41, Dv.at_42, Dv.at_43, Dv.at_10, Dv.frzs_ints, Dv.cleans_ints, Dv.le_sLine, Dv.sh_non, Dv.sh_bl, Dv.sh_int, Dv.sh_tup, Dv.sh_lst, Dv.eqo_int, Dv.eqo_bl, Dv.eqo_tup, Dv.eqo_lst, Dv.eqos_nil, Dv.eqos_cons, List.all_cons, List.all_nil, Dv.beq_tt, Dv.beq_ff, Dv.beq_tf, Dv.beq_ft, List.getElem?_cons_zero, List.getElem?_cons_succ, List.getElem?_nil, List.set_cons_zero, List.set_cons_succ, List.set_nil, Option.bind_some, Option.bind_none, Option.map_some, Option.map_none, if_true, if_false, ↓reduceIte, decide_true, decide_false, Bool.false_eq_true, Bool.true_and, Bool.and_true, Bool.false_and, Bool.and_false, Bool.not_true, Bool.not_false, Bool.true_or, Bool.or_true, Bool.false_or, Bool.or_false, List.cons_append, List.nil_append, List.length_cons, List.length_nil, List.map_cons, List.map_nil, List.replicate_succ, List.replicate_zero, Nat.reduceAdd, Nat.reduceSub, Nat.reduceLT, Nat.reduceEqDiff, Nat.reduceLeDiff, Int.reduceAdd, Int.reduceSub, Int.reduceMul, Int.reduceNeg, Int.reduceLT, Int.reduceLE, Int.reduceEq, Int.reduceMod, Int.reduceDiv, Int.reduceToNat, Nat.add_zero, Nat.zero_add, List.contains_cons, List.contains_nil, Nat.reduceBEq, beq_self_eq_true, reduceCtorEq, and_true, true_and, and_false, false_and, not_true_eq_false, not_false_eq_true, Dv.mulOk_sz, sFor, frzs_sO, frzs_enu]
    exact h
  · have := listE_dT false (crsD S) (tru (crsD S).length)
    simp (config := {decide := true}) only [Dv.get, Dv.xV, Dv.xC, Dv.frz, Dv.frzs, Dv.flat, Dv.flats, Dv.clean, Dv.cleans, Dv.frzSlot, Dv.frz1, Dv.frzAt, Dv.put, Dv.addD, Dv.subD, Dv.mulD, Dv.fdivD, Dv.modD, Dv.negD, Dv.x2, Dv.x1, Dv.xsN, Dv.xsC, Dv.xTup, Dv.xLst, Dv.xCall, Dv.asB, Dv.tOf, Dv.tNot, Dv.tAnd, Dv.tOr, Dv.xB, Dv.xIf, Dv.cmpI, Dv.ltD, Dv.leD, Dv.gtD, Dv.geD, Dv.xAnd, Dv.xOr, Dv.xNot, Dv.sN, Dv.sSeq, Dv.sSet, Dv.sRet, Dv.sRetV, Dv.sIf, Dv.sBk, Dv.sCt, Dv.gN, Dv.gsN, Dv.gsC, Dv.gT, Dv.fnD, Dv.ixD, Dv.slD, Dv.pN, Dv.pI, Dv.xSl, Dv.lenD', Dv.intD, Dv.maxD, Dv.minD, Dv.allD, Dv.anyD, Dv.allB, Dv.listD, Dv.xF, Dv.isiD, Dv.eqD, Dv.neD, Dv.isND, Dv.notND, Dv.isN2, Dv.notN2, Dv.sApp, Dv.itL, Dv.itR1, Dv.itR2, Dv.rngL, Dv.zipL, Dv.zipO, Dv.itZ, Dv.enuL, Dv.enuO, Dv.itEn, Dv.wipeD, Dv.keepD, Dv.tY, Dv.sAsg, Dv.sPar, Dv.sPar3, Dv.sAugI, Dv.sDrop, Dv.at_20, Dv.at_21, Dv.at_30, Dv.at_31, Dv.at_32, Dv.at_40, Dv.at_41, Dv.at_42, Dv.at_43, Dv.at_10, Dv.frzs_ints, Dv.cleans_ints, Dv.le_sLine, Dv.sh_non, Dv.sh_bl, Dv.sh_int, Dv.sh_tup, Dv.sh_lst, Dv.eqo_int, Dv.eqo_bl, Dv.eqo_tup, Dv.eqo_lst, Dv.eqos_nil, Dv.eqos_cons, List.all_cons, List.all_nil, Dv.beq_tt, Dv.beq_ff, Dv.beq_tf, Dv.beq_ft, List.getElem?_cons_zero, List.getElem?_cons_succ, List.getElem?_nil, List.set_cons_zero, List.set_cons_succ, List.set_nil, Option.bind_some, Option.bind_none, Option.map_some, Option.map_none, if_true, if_false, ↓reduceIte, decide_true, decide_false, Bool.false_eq_true, Bool.true_and, Bool.and_true, Bool.false_and, Bool.and_false, Bool.not_true, Bool.not_false, Bool.true_or, Bool.or_true, Bool.false_or, Bool.or_false, List.cons_append, List.nil_append, List.length_cons, List.length_nil, List.map_cons, List.map_nil, List.replicate_succ, List.replicate_zero, Nat.reduceAdd, Nat.reduceSub, Nat.reduceLT, Nat.reduceEqDiff, Nat.reduceLeDiff, Int.reduceAdd, Int.reduceSub, Int.reduceMul, Int.reduceNeg, Int.reduceLT, Int.reduceLE, Int.reduceEq, Int.reduceMod, Int.reduceDiv, Int.reduceToNat, Nat.add_zero, Nat.zero_add, List.contains_cons, List.contains_nil, Nat.reduceBEq, beq_self_eq_true, reduceCtorEq, and_true, true_and, and_false, false_and, not_true_eq_false, not_false_eq_true, Dv.mulOk_sz, tru_frzs, this]
theorem crsD_mem {S : List S3} {s : S3} (hS : ∀ s ∈ S, Bk 1 s) (h : s ∈ crsD S) : Bk 3 s ∧ Spt s := by
  rcases (addA_mem _).mp h with h | h
  · cases h
  · obtain ⟨p, hp, e⟩ := List.mem_filterMap.mp h
    exact crS_ok (hS _ (mem_prs hp).1) (hS _ (mem_prs hp).2) e
end Sm
end
section
set_option Elab.async false
set_option linter.all false
set_option maxRecDepth 100000
namespace Sm
open Dv
end Sm
end
section
set_option Elab.async false
set_option linter.all false
set_option maxRecDepth 100000
namespace Sm
open Dv
end Sm
end
section
set_option Elab.async false
set_option linter.all false
set_option maxRecDepth 100000
namespace Sm
open Dv
end Sm
end
section
set_option Elab.async false
set_option linter.all false
set_option maxRecDepth 100000
namespace Sm
open Dv
theorem low_eq (a b : Int) : f__law_low [.int a, .int b] = some (.int (gcdZ a b)) := by
  have h := gcd_while b.natAbs a.natAbs b.natAbs (Nat.le_refl _)
  unfold f__law_low s__law_low c1__law_low b1__law_low
  simp only [Dv.get, Dv.xV, Dv.xC, Dv.frz, Dv.frzs, Dv.flat, Dv.flats, Dv.clean, Dv.cleans, Dv.frzSlot, Dv.frz1, Dv.frzAt, Dv.put, Dv.addD, Dv.subD, Dv.mulD, Dv.fdivD, Dv.modD, Dv.negD, Dv.x2, Dv.x1, Dv.xsN, Dv.xsC, Dv.xTup, Dv.xLst, Dv.xCall, Dv.asB, Dv.tOf, Dv.tNot, Dv.tAnd, Dv.tOr, Dv.xB, Dv.xIf, Dv.cmpI, Dv.ltD, Dv.leD, Dv.gtD, Dv.geD, Dv.xAnd, Dv.xOr, Dv.xNot, Dv.sN, Dv.sSeq, Dv.sSet, Dv.sRet, Dv.sRetV, Dv.sIf, Dv.sBk, Dv.sCt, Dv.gN, Dv.gsN, Dv.gsC, Dv.gT, Dv.fnD, Dv.ixD, Dv.slD, Dv.pN, Dv.pI, Dv.xSl, Dv.lenD', Dv.intD, Dv.maxD, Dv.minD, Dv.allD, Dv.anyD, Dv.allB, Dv.listD, Dv.xF, Dv.isiD, Dv.eqD, Dv.neD, Dv.isND, Dv.notND, Dv.isN2, Dv.notN2, Dv.sApp, Dv.itL, Dv.itR1, Dv.itR2, Dv.rngL, Dv.zipL, Dv.zipO, Dv.itZ, Dv.enuL, Dv.enuO, Dv.itEn, Dv.wipeD, Dv.keepD, Dv.tY, Dv.sAsg, Dv.sPar, Dv.sPar3, Dv.sAugI, Dv.sDrop, Dv.le_sLine, Dv.sh_non, Dv.sh_bl, Dv.sh_int, Dv.sh_tup, Dv.sh_lst, Dv.eqo_int, Dv.eqo_bl, Dv.eqo_tup, Dv.eqo_lst, Dv.eqos_nil, Dv.eqos_cons, List.all_cons, List.all_nil, Dv.beq_tt, Dv.beq_ff, Dv.beq_tf, Dv.beq_ft, List.getElem?_cons_zero, List.getElem?_cons_succ, List.getElem?_nil, List.set_cons_zero, List.set_cons_succ, List.set_nil, Option.bind_some, Option.bind_none, Option.map_some, Option.map_none, if_true, if_false, ↓reduceIte, decide_true, decide_false, Bool.false_eq_true, Bool.true_and, Bool.and_true, Bool.false_and, Bool.and_false, Bool.not_true, Bool.not_false, Bool.true_or, Bool.or_true, Bool.false_or, Bool.or_false, List.cons_append, List.nil_append, List.length_cons, List.length_nil, List.map_cons, List.map_nil, List.replicate_succ, List.replicate_zero, Nat.reduceAdd, Nat.reduceSub, Nat.reduceLT, Nat.reduceEqDiff, Nat.reduceLeDiff, Int.reduceAdd, Int.reduceSub, Int.reduceMul, Int.reduceNeg, Int.reduceLT, Int.reduceLE, Int.reduceEq, Int.reduceMod, Int.reduceDiv, Int.reduceToNat, Nat.add_zero, Nat.zero_add, List.contains_cons, List.contains_nil, Nat.reduceBEq, beq_self_eq_true, reduceCtorEq, and_true, true_and, and_false, false_and, not_true_eq_false, not_false_eq_true, absD, abs_nat]
  rw [h]
  rfl
end Sm
end
section
set_option Elab.async false
set_option linter.all false
set_option maxRecDepth 100000
namespace Sm
open Dv
theorem has_eq (o : Bool) (S : List O) (hl : S.length ≤ 100000) {x y w : Int} {k1 k2 k3 j : Nat} (hS : ∀ s ∈ S, IsS j s) [Sz k1 x] [Sz k2 y] [Sz k3 w] (hk : Nat.ble (j + (k1 + k2 + k3)) 15000 = true) : f__law_has [.lst o S, .tup [.int x, .int y, .int w]] = some (.bl (S.all (holdO x y w))) := by
  have hk' := Nat.le_of_ble_eq_true hk
  have ok1 : Nat.ble (j + k1) 15000 = true := Nat.ble_eq_true_of_le (by omega)
  have ok2 : Nat.ble (j + k2) 15000 = true := Nat.ble_eq_true_of_le (by omega)
  have ok3 : Nat.ble (j + k3) 15000 = true := Nat.ble_eq_true_of_le (by omega)
  have fs := frzs_S hS
  have hl' : (S.length ≤ sLine) = True := eq_true (Nat.le_trans hl (by decide))
  have key : ∀ (o1 : O), lcD (gT 3 (gsC (gN 5) (gsC (gN 6) (gsC (gN 7) gsN)))) tY (x2 leD (x2 addD (x2 mulD (xV 5) (xV 2)) (x2 mulD (xV 6) (xV 3))) (x2 mulD (xV 7) (xV 4))) S [some (.lst false S), none, some (.int x), some (.int y), some (.int w), none, none, none] = some (S.map fun s => O.bl (holdO x y w s)) := fun o1 => by
    refine lcD_map (h := fun s => O.bl (holdO x y w s)) fun s hs => ?_
    obtain ⟨a, b, c, rfl, _, _, _⟩ := hS s hs
    refine ⟨_, by simp (config := {decide := true}) only [Dv.get, Dv.xV, Dv.xC, Dv.frz, Dv.frzs, Dv.flat, Dv.flats, Dv.clean, Dv.cleans, Dv.frzSlot, Dv.frz1, Dv.frzAt, Dv.put, Dv.addD, Dv.subD, Dv.mulD, Dv.fdivD, Dv.modD, Dv.negD, Dv.x2, Dv.x1, Dv.xsN, Dv.xsC, Dv.xTup, Dv.xLst, Dv.xCall, Dv.asB, Dv.tOf, Dv.tNot, Dv.tAnd, Dv.tOr, Dv.xB, Dv.xIf, Dv.cmpI, Dv.ltD, Dv.leD, Dv.gtD, Dv.geD, Dv.xAnd, Dv.xOr, Dv.xNot, Dv.sN, Dv.sSeq, Dv.sSet, Dv.sRet, Dv.sRetV, Dv.sIf, Dv.sBk, Dv.sCt, Dv.gN, Dv.gsN, Dv.gsC, Dv.gT, Dv.fnD, Dv.ixD, Dv.slD, Dv.pN, Dv.pI, Dv.xSl, Dv.lenD', Dv.intD, Dv.maxD, Dv.minD, Dv.allD, Dv.anyD, Dv.allB, Dv.listD, Dv.xF, Dv.isiD, Dv.eqD, Dv.neD, Dv.isND, Dv.notND, Dv.isN2, Dv.notN2, Dv.sApp, Dv.itL, Dv.itR1, Dv.itR2, Dv.rngL, Dv.zipL, Dv.zipO, Dv.itZ, Dv.enuL, Dv.enuO, Dv.itEn, Dv.wipeD, Dv.keepD, Dv.tY, Dv.sAsg, Dv.sPar, Dv.sPar3, Dv.sAugI, Dv.sDrop, Dv.at_20, Dv.at_21, Dv.at_30, Dv.at_31, Dv.at_32, Dv.at_40, Dv.at_41, Dv.at_42, Dv.at_43, Dv.at_10, Dv.frzs_ints, Dv.cleans_ints, Dv.le_sLine, Dv.sh_non, Dv.sh_bl, Dv.sh_int, Dv.sh_tup, Dv.sh_lst, Dv.eqo_int, Dv.eqo_bl, Dv.eqo_tup, Dv.eqo_lst, Dv.eqos_nil, Dv.eqos_cons, List.all_cons, List.all_nil, Dv.beq_tt, Dv.beq_ff, Dv.beq_tf, Dv.beq_ft, List.getElem?_cons_zero, List.getElem?_cons_succ, List.getElem?_nil, List.set_cons_zero, List.set_cons_succ, List.set_nil, Option.bind_some, Option.bind_none, Option.map_some, Option.map_none, if_true, if_false, ↓reduceIte, decide_true, decide_false, Bool.false_eq_true, Bool.true_and, Bool.and_true, Bool.false_and, Bool.and_false, Bool.not_true, Bool.not_false, Bool.true_or, Bool.or_true, Bool.false_or, Bool.or_false, List.cons_append, List.nil_append, List.length_cons, List.length_nil, List.map_cons, List.map_nil, List.replicate_succ, List.replicate_zero, Nat.reduceAdd, Nat.reduceSub, Nat.reduceLT, Nat.reduceEqDiff, Nat.reduceLeDiff, Int.reduceAdd, Int.reduceSub, Int.reduceMul, Int.reduceNeg, Int.reduceLT, Int.reduceLE, Int.reduceEq, Int.reduceMod, Int.reduceDiv, Int.reduceToNat, Nat.add_zero, Nat.zero_add, List.contains_cons, List.contains_nil, Nat.reduceBEq, beq_self_eq_true, reduceCtorEq, and_true, true_and, and_false, false_and, not_true_eq_false, not_false_eq_true, Dv.mulOk_sz] <;> rfl, ?_⟩
    simp (config := {decide := true}) only [Dv.get, Dv.xV, Dv.xC, Dv.frz, Dv.frzs, Dv.flat, Dv.flats, Dv.clean, Dv.cleans, Dv.frzSlot, Dv.frz1, Dv.frzAt, Dv.put, Dv.addD, Dv.subD, Dv.mulD, Dv.fdivD, Dv.modD, Dv.negD, Dv.x2, Dv.x1, Dv.xsN, Dv.xsC, Dv.xTup, Dv.xLst, Dv.xCall, Dv.asB, Dv.tOf, Dv.tNot, Dv.tAnd, Dv.tOr, Dv.xB, Dv.xIf, Dv.cmpI, Dv.ltD, Dv.leD, Dv.gtD, Dv.geD, Dv.xAnd, Dv.xOr, Dv.xNot, Dv.sN, Dv.sSeq, Dv.sSet, Dv.sRet, Dv.sRetV, Dv.sIf, Dv.sBk, Dv.sCt, Dv.gN, Dv.gsN, Dv.gsC, Dv.gT, Dv.fnD, Dv.ixD, Dv.slD, Dv.pN, Dv.pI, Dv.xSl, Dv.lenD', Dv.intD, Dv.maxD, Dv.minD, Dv.allD, Dv.anyD, Dv.allB, Dv.listD, Dv.xF, Dv.isiD, Dv.eqD, Dv.neD, Dv.isND, Dv.notND, Dv.isN2, Dv.notN2, Dv.sApp, Dv.itL, Dv.itR1, Dv.itR2, Dv.rngL, Dv.zipL, Dv.zipO, Dv.itZ, Dv.enuL, Dv.enuO, Dv.itEn, Dv.wipeD, Dv.keepD, Dv.tY, Dv.sAsg, Dv.sPar, Dv.sPar3, Dv.sAugI, Dv.sDrop, Dv.at_20, Dv.at_21, Dv.at_30, Dv.at_31, Dv.at_32, Dv.at_40, Dv.at_41, Dv.at_42, Dv.at_43, Dv.at_10, Dv.frzs_ints, Dv.cleans_ints, Dv.le_sLine, Dv.sh_non, Dv.sh_bl, Dv.sh_int, Dv.sh_tup, Dv.sh_lst, Dv.eqo_int, Dv.eqo_bl, Dv.eqo_tup, Dv.eqo_lst, Dv.eqos_nil, Dv.eqos_cons, List.all_cons, List.all_nil, Dv.beq_tt, Dv.beq_ff, Dv.beq_tf, Dv.beq_ft, List.getElem?_cons_zero, List.getElem?_cons_succ, List.getElem?_nil, List.set_cons_zero, List.set_cons_succ, List.set_nil, Option.bind_some, Option.bind_none, Option.map_some, Option.map_none, if_true, if_false, ↓reduceIte, decide_true, decide_false, Bool.false_eq_true, Bool.true_and, Bool.and_true, Bool.false_and, Bool.and_false, Bool.not_true, Bool.not_false, Bool.true_or, Bool.or_true, Bool.false_or, Bool.or_false, List.cons_append, List.nil_append, List.length_cons, List.length_nil, List.map_cons, List.map_nil, List.replicate_succ, List.replicate_zero, Nat.reduceAdd, Nat.reduceSub, Nat.reduceLT, Nat.reduceEqDiff, Nat.reduceLeDiff, Int.reduceAdd, Int.reduceSub, Int.reduceMul, Int.reduceNeg, Int.reduceLT, Int.reduceLE, Int.reduceEq, Int.reduceMod, Int.reduceDiv, Int.reduceToNat, Nat.add_zero, Nat.zero_add, List.contains_cons, List.contains_nil, Nat.reduceBEq, beq_self_eq_true, reduceCtorEq, and_true, true_and, and_false, false_and, not_true_eq_false, not_false_eq_true, Dv.mulOk_sz, mulOk_sz (x := a) (y := x) ok1, mulOk_sz (x := b) (y := y) ok2, mulOk_sz (x := c) (y := w) ok3, holdO]
  unfold f__law_has s__law_has
  refine fnD_of rfl rfl ?_
  refine Dv.seq_nx (by simp (config := {decide := true}) only [Dv.get, Dv.xV, Dv.xC, Dv.frz, Dv.frzs, Dv.flat, Dv.flats, Dv.clean, Dv.cleans, Dv.frzSlot, Dv.frz1, Dv.frzAt, Dv.put, Dv.addD, Dv.subD, Dv.mulD, Dv.fdivD, Dv.modD, Dv.negD, Dv.x2, Dv.x1, Dv.xsN, Dv.xsC, Dv.xTup, Dv.xLst, Dv.xCall, Dv.asB, Dv.tOf, Dv.tNot, Dv.tAnd, Dv.tOr, Dv.xB, Dv.xIf, Dv.cmpI, Dv.ltD, Dv.leD, Dv.gtD, Dv.geD, Dv.xAnd, Dv.xOr, Dv.xNot, Dv.sN, Dv.sSeq, Dv.sSet, Dv.sRet, Dv.sRetV, Dv.sIf, Dv.sBk, Dv.sCt, Dv.gN, Dv.gsN, Dv.gsC, Dv.gT, Dv.fnD, Dv.ixD, Dv.slD, Dv.pN, Dv.pI, Dv.xSl, Dv.lenD', Dv.intD, Dv.maxD, Dv.minD, Dv.allD, Dv.anyD, Dv.allB, Dv.listD, Dv.xF, Dv.isiD, Dv.eqD, Dv.neD, Dv.isND, Dv.notND, Dv.isN2, Dv.notN2, Dv.sApp, Dv.itL, Dv.itR1, Dv.itR2, Dv.rngL, Dv.zipL, Dv.zipO, Dv.itZ, Dv.enuL, Dv.enuO, Dv.itEn, Dv.wipeD, Dv.keepD, Dv.tY, Dv.sAsg, Dv.sPar, Dv.sPar3, Dv.sAugI, Dv.sDrop, Dv.at_20, Dv.at_21, Dv.at_30, Dv.at_31, Dv.at_32, Dv.at_40, Dv.at_41, Dv.at_42, Dv.at_43, Dv.at_10, Dv.frzs_ints, Dv.cleans_ints, Dv.le_sLine, Dv.sh_non, Dv.sh_bl, Dv.sh_int, Dv.sh_tup, Dv.sh_lst, Dv.eqo_int, Dv.eqo_bl, Dv.eqo_tup, Dv.eqo_lst, Dv.eqos_nil, Dv.eqos_cons, List.all_cons, List.all_nil, Dv.beq_tt, Dv.beq_ff, Dv.beq_tf, Dv.beq_ft, List.getElem?_cons_zero, List.getElem?_cons_succ, List.getElem?_nil, List.set_cons_zero, List.set_cons_succ, List.set_nil, Option.bind_some, Option.bind_none, Option.map_some, Option.map_none, if_true, if_false, ↓reduceIte, decide_true, decide_false, Bool.false_eq_true, Bool.true_and, Bool.and_true, Bool.false_and, Bool.and_false, Bool.not_true, Bool.not_false, Bool.true_or, Bool.or_true, Bool.false_or, Bool.or_false, List.cons_append, List.nil_append, List.length_cons, List.length_nil, List.map_cons, List.map_nil, List.replicate_succ, List.replicate_zero, Nat.reduceAdd, Nat.reduceSub, Nat.reduceLT, Nat.reduceEqDiff, Nat.reduceLeDiff, Int.reduceAdd, Int.reduceSub, Int.reduceMul, Int.reduceNeg, Int.reduceLT, Int.reduceLE, Int.reduceEq, Int.reduceMod, Int.reduceDiv, Int.reduceToNat, Nat.add_zero, Nat.zero_add, List.contains_cons, List.contains_nil, Nat.reduceBEq, beq_self_eq_true, reduceCtorEq, and_true, true_and, and_false, false_and, not_true_eq_false, not_false_eq_true, Dv.mulOk_sz, fs] <;> rfl) ?_
  simp (config := {decide := true}) only [Dv.get, Dv.xV, Dv.xC, Dv.frz, Dv.frzs, Dv.flat, Dv.flats, Dv.clean, Dv.cleans, Dv.frzSlot, Dv.frz1, Dv.frzAt, Dv.put, Dv.addD, Dv.subD, Dv.mulD, Dv.fdivD, Dv.modD, Dv.negD, Dv.x2, Dv.x1, Dv.xsN, Dv.xsC, Dv.xTup, Dv.xLst, Dv.xCall, Dv.asB, Dv.tOf, Dv.tNot, Dv.tAnd, Dv.tOr, Dv.xB, Dv.xIf, Dv.cmpI, Dv.ltD, Dv.leD, Dv.gtD, Dv.geD, Dv.xAnd, Dv.xOr, Dv.xNot, Dv.sN, Dv.sSeq, Dv.sSet, Dv.sRet, Dv.sRetV, Dv.sIf, Dv.sBk, Dv.sCt, Dv.gN, Dv.gsN, Dv.gsC, Dv.gT, Dv.fnD, Dv.ixD, Dv.slD, Dv.pN, Dv.pI, Dv.xSl, Dv.lenD', Dv.intD, Dv.maxD, Dv.minD, Dv.allD, Dv.anyD, Dv.allB, Dv.listD, Dv.xF, Dv.isiD, Dv.eqD, Dv.neD, Dv.isND, Dv.notND, Dv.isN2, Dv.notN2, Dv.sApp, Dv.itL, Dv.itR1, Dv.itR2, Dv.rngL, Dv.zipL, Dv.zipO, Dv.itZ, Dv.enuL, Dv.enuO, Dv.itEn, Dv.wipeD, Dv.keepD, Dv.tY, Dv.sAsg, Dv.sPar, Dv.sPar3, Dv.sAugI, Dv.sDrop, Dv.at_20, Dv.at_21, Dv.at_30, Dv.at_31, Dv.at_32, Dv.at_40, Dv.at_41, Dv.at_42, Dv.at_43, Dv.at_10, Dv.frzs_ints, Dv.cleans_ints, Dv.le_sLine, Dv.sh_non, Dv.sh_bl, Dv.sh_int, Dv.sh_tup, Dv.sh_lst, Dv.eqo_int, Dv.eqo_bl, Dv.eqo_tup, Dv.eqo_lst, Dv.eqos_nil, Dv.eqos_cons, List.all_cons, List.all_nil, Dv.beq_tt, Dv.beq_ff, Dv.beq_tf, Dv.beq_ft, List.getElem?_cons_zero, List.getElem?_cons_succ, List.getElem?_nil, List.set_cons_zero, List.set_cons_succ, List.set_nil, Option.bind_some, Option.bind_none, Option.map_some, Option.map_none, if_true, if_false, ↓reduceIte, decide_true, decide_false, Bool.false_eq_true, Bool.true_and, Bool.and_true, Bool.false_and, Bool.and_false, Bool.not_true, Bool.not_false, Bool.true_or, Bool.or_true, Bool.false_or, Bool.or_false, List.cons_append, List.nil_append, List.length_cons, List.length_nil, List.map_cons, List.map_nil, List.replicate_succ, List.replicate_zero, Nat.reduceAdd, Nat.reduceSub, Nat.reduceLT, Nat.reduceEqDiff, Nat.reduceLeDiff, Int.reduceAdd, Int.reduceSub, Int.reduceMul, Int.reduceNeg, Int.reduceLT, Int.reduceLE, Int.reduceEq, Int.reduceMod, Int.reduceDiv, Int.reduceToNat, Nat.add_zero, Nat.zero_add, List.contains_cons, List.contains_nil, Nat.reduceBEq, beq_self_eq_true, reduceCtorEq, and_true, true_and, and_false, false_and, not_true_eq_false, not_false_eq_true, Dv.mulOk_sz, xLc, fs, hl', key .non, allB_map, all_id]
end Sm
end
section
set_option Elab.async false
set_option linter.all false
set_option maxRecDepth 100000
namespace Sm
open Dv
theorem spot_ofX {x y w : Int} (hw : w ≠ 0) {c : Nat} [Sw : Sz c w] (hc : Nat.ble c 140 = true) : f__law_spot_of [.int x, .int y, .int w] = some (spO x y w) := by
  obtain ⟨s, x', y', w', hs, e1, e2, e3, hS, g0, gl, lx, ly, lw⟩ := spot_low (x := x) (y := y) hw
  have hs' : s = sgn w := hs
  subst hs'
  have h1 : spX x y w = x' := e1
  have h2 : spY x y w = y' := e2
  have h3 : spW x y w = w' := e3
  haveI := sz_le Sw gl
  have hd : divOk (gcd3 (sgn w * x) (sgn w * y) (sgn w * w)) = true := divOk_sz g0 hc
  unfold spO
  rw [h1, h2, h3]
  unfold f__law_spot_of s__law_spot_of
  by_cases h : w < 0
  · have hsg : sgn w = -1 := if_pos h
    rw [hsg] at e1 e2 e3 hd
    have n : ∀ z : Int, -1 * z = -z := fun z => by omega
    simp only [n] at e1 e2 e3 hd
    simp (config := {decide := true}) only [Dv.get, Dv.xV, Dv.xC, Dv.frz, Dv.frzs, Dv.flat, Dv.flats, Dv.clean, Dv.cleans, Dv.frzSlot, Dv.frz1, Dv.frzAt, Dv.put, Dv.addD, Dv.subD, Dv.mulD, Dv.fdivD, Dv.modD, Dv.negD, Dv.x2, Dv.x1, Dv.xsN, Dv.xsC, Dv.xTup, Dv.xLst, Dv.xCall, Dv.asB, Dv.tOf, Dv.tNot, Dv.tAnd, Dv.tOr, Dv.xB, Dv.xIf, Dv.cmpI, Dv.ltD, Dv.leD, Dv.gtD, Dv.geD, Dv.xAnd, Dv.xOr, Dv.xNot, Dv.sN, Dv.sSeq, Dv.sSet, Dv.sRet, Dv.sRetV, Dv.sIf, Dv.sBk, Dv.sCt, Dv.gN, Dv.gsN, Dv.gsC, Dv.gT, Dv.fnD, Dv.ixD, Dv.slD, Dv.pN, Dv.pI, Dv.xSl, Dv.lenD', Dv.intD, Dv.maxD, Dv.minD, Dv.allD, Dv.anyD, Dv.allB, Dv.listD, Dv.xF, Dv.isiD, Dv.eqD, Dv.neD, Dv.isND, Dv.notND, Dv.isN2, Dv.notN2, Dv.sApp, Dv.itL, Dv.itR1, Dv.itR2, Dv.rngL, Dv.zipL, Dv.zipO, Dv.itZ, Dv.enuL, Dv.enuO, Dv.itEn, Dv.wipeD, Dv.keepD, Dv.tY, Dv.sAsg, Dv.sPar, Dv.sPar3, Dv.sAugI, Dv.sDrop, Dv.at_20, Dv.at_21, Dv.at_30, Dv.at_31, Dv.at_32, Dv.at_40, Dv.at_41, Dv.at_42, Dv.at_43, Dv.at_10, Dv.frzs_ints, Dv.cleans_ints, Dv.le_sLine, Dv.sh_non, Dv.sh_bl, Dv.sh_int, Dv.sh_tup, Dv.sh_lst, Dv.eqo_int, Dv.eqo_bl, Dv.eqo_tup, Dv.eqo_lst, Dv.eqos_nil, Dv.eqos_cons, List.all_cons, List.all_nil, Dv.beq_tt, Dv.beq_ff, Dv.beq_tf, Dv.beq_ft, List.getElem?_cons_zero, List.getElem?_cons_succ, List.getElem?_nil, List.set_cons_zero, List.set_cons_succ, List.set_nil, Option.bind_some, Option.bind_none, Option.map_some, Option.map_none, if_true, if_false, ↓reduceIte, decide_true, decide_false, Bool.false_eq_true, Bool.true_and, Bool.and_true, Bool.false_and, Bool.and_false, Bool.not_true, Bool.not_false, Bool.true_or, Bool.or_true, Bool.false_or, Bool.or_false, List.cons_append, List.nil_append, List.length_cons, List.length_nil, List.map_cons, List.map_nil, List.replicate_succ, List.replicate_zero, Nat.reduceAdd, Nat.reduceSub, Nat.reduceLT, Nat.reduceEqDiff, Nat.reduceLeDiff, Int.reduceAdd, Int.reduceSub, Int.reduceMul, Int.reduceNeg, Int.reduceLT, Int.reduceLE, Int.reduceEq, Int.reduceMod, Int.reduceDiv, Int.reduceToNat, Nat.add_zero, Nat.zero_add, List.contains_cons, List.contains_nil, Nat.reduceBEq, beq_self_eq_true, reduceCtorEq, and_true, true_and, and_false, false_and, not_true_eq_false, not_false_eq_true, Dv.mulOk_sz, h, low_eq, hd, e1, e2, e3]
  · have hsg : sgn w = 1 := if_neg h
    rw [hsg] at e1 e2 e3 hd
    simp only [Int.one_mul] at e1 e2 e3 hd
    simp (config := {decide := true}) only [Dv.get, Dv.xV, Dv.xC, Dv.frz, Dv.frzs, Dv.flat, Dv.flats, Dv.clean, Dv.cleans, Dv.frzSlot, Dv.frz1, Dv.frzAt, Dv.put, Dv.addD, Dv.subD, Dv.mulD, Dv.fdivD, Dv.modD, Dv.negD, Dv.x2, Dv.x1, Dv.xsN, Dv.xsC, Dv.xTup, Dv.xLst, Dv.xCall, Dv.asB, Dv.tOf, Dv.tNot, Dv.tAnd, Dv.tOr, Dv.xB, Dv.xIf, Dv.cmpI, Dv.ltD, Dv.leD, Dv.gtD, Dv.geD, Dv.xAnd, Dv.xOr, Dv.xNot, Dv.sN, Dv.sSeq, Dv.sSet, Dv.sRet, Dv.sRetV, Dv.sIf, Dv.sBk, Dv.sCt, Dv.gN, Dv.gsN, Dv.gsC, Dv.gT, Dv.fnD, Dv.ixD, Dv.slD, Dv.pN, Dv.pI, Dv.xSl, Dv.lenD', Dv.intD, Dv.maxD, Dv.minD, Dv.allD, Dv.anyD, Dv.allB, Dv.listD, Dv.xF, Dv.isiD, Dv.eqD, Dv.neD, Dv.isND, Dv.notND, Dv.isN2, Dv.notN2, Dv.sApp, Dv.itL, Dv.itR1, Dv.itR2, Dv.rngL, Dv.zipL, Dv.zipO, Dv.itZ, Dv.enuL, Dv.enuO, Dv.itEn, Dv.wipeD, Dv.keepD, Dv.tY, Dv.sAsg, Dv.sPar, Dv.sPar3, Dv.sAugI, Dv.sDrop, Dv.at_20, Dv.at_21, Dv.at_30, Dv.at_31, Dv.at_32, Dv.at_40, Dv.at_41, Dv.at_42, Dv.at_43, Dv.at_10, Dv.frzs_ints, Dv.cleans_ints, Dv.le_sLine, Dv.sh_non, Dv.sh_bl, Dv.sh_int, Dv.sh_tup, Dv.sh_lst, Dv.eqo_int, Dv.eqo_bl, Dv.eqo_tup, Dv.eqo_lst, Dv.eqos_nil, Dv.eqos_cons, List.all_cons, List.all_nil, Dv.beq_tt, Dv.beq_ff, Dv.beq_tf, Dv.beq_ft, List.getElem?_cons_zero, List.getElem?_cons_succ, List.getElem?_nil, List.set_cons_zero, List.set_cons_succ, List.set_nil, Option.bind_some, Option.bind_none, Option.map_some, Option.map_none, if_true, if_false, ↓reduceIte, decide_true, decide_false, Bool.false_eq_true, Bool.true_and, Bool.and_true, Bool.false_and, Bool.and_false, Bool.not_true, Bool.not_false, Bool.true_or, Bool.or_true, Bool.false_or, Bool.or_false, List.cons_append, List.nil_append, List.length_cons, List.length_nil, List.map_cons, List.map_nil, List.replicate_succ, List.replicate_zero, Nat.reduceAdd, Nat.reduceSub, Nat.reduceLT, Nat.reduceEqDiff, Nat.reduceLeDiff, Int.reduceAdd, Int.reduceSub, Int.reduceMul, Int.reduceNeg, Int.reduceLT, Int.reduceLE, Int.reduceEq, Int.reduceMod, Int.reduceDiv, Int.reduceToNat, Nat.add_zero, Nat.zero_add, List.contains_cons, List.contains_nil, Nat.reduceBEq, beq_self_eq_true, reduceCtorEq, and_true, true_and, and_false, false_and, not_true_eq_false, not_false_eq_true, Dv.mulOk_sz, h, low_eq, hd, e1, e2, e3]
theorem meet_eq {p q : S3} (hp : Bk 1 p) (hq : Bk 1 q) : f__law_meet [sO p, sO q] = some (opO (crS p q)) := by
  obtain ⟨a, b, c⟩ := p
  obtain ⟨d, e, f⟩ := q
  obtain ⟨h1, h2, h3⟩ := hp
  obtain ⟨h4, h5, h6⟩ := hq
  simp only at h1 h2 h3 h4 h5 h6
  unfold crS f__law_meet s__law_meet
  refine fnD_of rfl rfl ?_
  refine seq_nx (τ' := [some (sO (a, b, c)), some (sO (d, e, f)), some (.int (crW a b c d e f))]) (by simp (config := {decide := true}) only [Dv.get, Dv.xV, Dv.xC, Dv.frz, Dv.frzs, Dv.flat, Dv.flats, Dv.clean, Dv.cleans, Dv.frzSlot, Dv.frz1, Dv.frzAt, Dv.put, Dv.addD, Dv.subD, Dv.mulD, Dv.fdivD, Dv.modD, Dv.negD, Dv.x2, Dv.x1, Dv.xsN, Dv.xsC, Dv.xTup, Dv.xLst, Dv.xCall, Dv.asB, Dv.tOf, Dv.tNot, Dv.tAnd, Dv.tOr, Dv.xB, Dv.xIf, Dv.cmpI, Dv.ltD, Dv.leD, Dv.gtD, Dv.geD, Dv.xAnd, Dv.xOr, Dv.xNot, Dv.sN, Dv.sSeq, Dv.sSet, Dv.sRet, Dv.sRetV, Dv.sIf, Dv.sBk, Dv.sCt, Dv.gN, Dv.gsN, Dv.gsC, Dv.gT, Dv.fnD, Dv.ixD, Dv.slD, Dv.pN, Dv.pI, Dv.xSl, Dv.lenD', Dv.intD, Dv.maxD, Dv.minD, Dv.allD, Dv.anyD, Dv.allB, Dv.listD, Dv.xF, Dv.isiD, Dv.eqD, Dv.neD, Dv.isND, Dv.notND, Dv.isN2, Dv.notN2, Dv.sApp, Dv.itL, Dv.itR1, Dv.itR2, Dv.rngL, Dv.zipL, Dv.zipO, Dv.itZ, Dv.enuL, Dv.enuO, Dv.itEn, Dv.wipeD, Dv.keepD, Dv.tY, Dv.sAsg, Dv.sPar, Dv.sPar3, Dv.sAugI, Dv.sDrop, Dv.at_20, Dv.at_21, Dv.at_30, Dv.at_31, Dv.at_32, Dv.at_40, Dv.at_41, Dv.at_42, Dv.at_43, Dv.at_10, Dv.frzs_ints, Dv.cleans_ints, Dv.le_sLine, Dv.sh_non, Dv.sh_bl, Dv.sh_int, Dv.sh_tup, Dv.sh_lst, Dv.eqo_int, Dv.eqo_bl, Dv.eqo_tup, Dv.eqo_lst, Dv.eqos_nil, Dv.eqos_cons, List.all_cons, List.all_nil, Dv.beq_tt, Dv.beq_ff, Dv.beq_tf, Dv.beq_ft, List.getElem?_cons_zero, List.getElem?_cons_succ, List.getElem?_nil, List.set_cons_zero, List.set_cons_succ, List.set_nil, Option.bind_some, Option.bind_none, Option.map_some, Option.map_none, if_true, if_false, ↓reduceIte, decide_true, decide_false, Bool.false_eq_true, Bool.true_and, Bool.and_true, Bool.false_and, Bool.and_false, Bool.not_true, Bool.not_false, Bool.true_or, Bool.or_true, Bool.false_or, Bool.or_false, List.cons_append, List.nil_append, List.length_cons, List.length_nil, List.map_cons, List.map_nil, List.replicate_succ, List.replicate_zero, Nat.reduceAdd, Nat.reduceSub, Nat.reduceLT, Nat.reduceEqDiff, Nat.reduceLeDiff, Int.reduceAdd, Int.reduceSub, Int.reduceMul, Int.reduceNeg, Int.reduceLT, Int.reduceLE, Int.reduceEq, Int.reduceMod, Int.reduceDiv, Int.reduceToNat, Nat.add_zero, Nat.zero_add, List.contains_cons, List.contains_nil, Nat.reduceBEq, beq_self_eq_true, reduceCtorEq, and_true, true_and, and_false, false_and, not_true_eq_false, not_false_eq_true, Dv.mulOk_sz, sO, crW]) ?_
  by_cases c0 : crW a b c d e f = 0
  · refine seq_rt ?_
    simp (config := {decide := true}) only [Dv.get, Dv.xV, Dv.xC, Dv.frz, Dv.frzs, Dv.flat, Dv.flats, Dv.clean, Dv.cleans, Dv.frzSlot, Dv.frz1, Dv.frzAt, Dv.put, Dv.addD, Dv.subD, Dv.mulD, Dv.fdivD, Dv.modD, Dv.negD, Dv.x2, Dv.x1, Dv.xsN, Dv.xsC, Dv.xTup, Dv.xLst, Dv.xCall, Dv.asB, Dv.tOf, Dv.tNot, Dv.tAnd, Dv.tOr, Dv.xB, Dv.xIf, Dv.cmpI, Dv.ltD, Dv.leD, Dv.gtD, Dv.geD, Dv.xAnd, Dv.xOr, Dv.xNot, Dv.sN, Dv.sSeq, Dv.sSet, Dv.sRet, Dv.sRetV, Dv.sIf, Dv.sBk, Dv.sCt, Dv.gN, Dv.gsN, Dv.gsC, Dv.gT, Dv.fnD, Dv.ixD, Dv.slD, Dv.pN, Dv.pI, Dv.xSl, Dv.lenD', Dv.intD, Dv.maxD, Dv.minD, Dv.allD, Dv.anyD, Dv.allB, Dv.listD, Dv.xF, Dv.isiD, Dv.eqD, Dv.neD, Dv.isND, Dv.notND, Dv.isN2, Dv.notN2, Dv.sApp, Dv.itL, Dv.itR1, Dv.itR2, Dv.rngL, Dv.zipL, Dv.zipO, Dv.itZ, Dv.enuL, Dv.enuO, Dv.itEn, Dv.wipeD, Dv.keepD, Dv.tY, Dv.sAsg, Dv.sPar, Dv.sPar3, Dv.sAugI, Dv.sDrop, Dv.at_20, Dv.at_21, Dv.at_30, Dv.at_31, Dv.at_32, Dv.at_40, Dv.at_41, Dv.at_42, Dv.at_43, Dv.at_10, Dv.frzs_ints, Dv.cleans_ints, Dv.le_sLine, Dv.sh_non, Dv.sh_bl, Dv.sh_int, Dv.sh_tup, Dv.sh_lst, Dv.eqo_int, Dv.eqo_bl, Dv.eqo_tup, Dv.eqo_lst, Dv.eqos_nil, Dv.eqos_cons, List.all_cons, List.all_nil, Dv.beq_tt, Dv.beq_ff, Dv.beq_tf, Dv.beq_ft, List.getElem?_cons_zero, List.getElem?_cons_succ, List.getElem?_nil, List.set_cons_zero, List.set_cons_succ, List.set_nil, Option.bind_some, Option.bind_none, Option.map_some, Option.map_none, if_true, if_false, ↓reduceIte, decide_true, decide_false, Bool.false_eq_true, Bool.true_and, Bool.and_true, Bool.false_and, Bool.and_false, Bool.not_true, Bool.not_false, Bool.true_or, Bool.or_true, Bool.false_or, Bool.or_false, List.cons_append, List.nil_append, List.length_cons, List.length_nil, List.map_cons, List.map_nil, List.replicate_succ, List.replicate_zero, Nat.reduceAdd, Nat.reduceSub, Nat.reduceLT, Nat.reduceEqDiff, Nat.reduceLeDiff, Int.reduceAdd, Int.reduceSub, Int.reduceMul, Int.reduceNeg, Int.reduceLT, Int.reduceLE, Int.reduceEq, Int.reduceMod, Int.reduceDiv, Int.reduceToNat, Nat.add_zero, Nat.zero_add, List.contains_cons, List.contains_nil, Nat.reduceBEq, beq_self_eq_true, reduceCtorEq, and_true, true_and, and_false, false_and, not_true_eq_false, not_false_eq_true, Dv.mulOk_sz, c0, sO, opO]
  · have h := spot_ofX (x := crX a b c d e f) (y := crY a b c d e f) (w := crW a b c d e f) c0 rfl
    refine seq_nx (τ' := [some (sO (a, b, c)), some (sO (d, e, f)), some (.int (crW a b c d e f))]) (by simp (config := {decide := true}) only [Dv.get, Dv.xV, Dv.xC, Dv.frz, Dv.frzs, Dv.flat, Dv.flats, Dv.clean, Dv.cleans, Dv.frzSlot, Dv.frz1, Dv.frzAt, Dv.put, Dv.addD, Dv.subD, Dv.mulD, Dv.fdivD, Dv.modD, Dv.negD, Dv.x2, Dv.x1, Dv.xsN, Dv.xsC, Dv.xTup, Dv.xLst, Dv.xCall, Dv.asB, Dv.tOf, Dv.tNot, Dv.tAnd, Dv.tOr, Dv.xB, Dv.xIf, Dv.cmpI, Dv.ltD, Dv.leD, Dv.gtD, Dv.geD, Dv.xAnd, Dv.xOr, Dv.xNot, Dv.sN, Dv.sSeq, Dv.sSet, Dv.sRet, Dv.sRetV, Dv.sIf, Dv.sBk, Dv.sCt, Dv.gN, Dv.gsN, Dv.gsC, Dv.gT, Dv.fnD, Dv.ixD, Dv.slD, Dv.pN, Dv.pI, Dv.xSl, Dv.lenD', Dv.intD, Dv.maxD, Dv.minD, Dv.allD, Dv.anyD, Dv.allB, Dv.listD, Dv.xF, Dv.isiD, Dv.eqD, Dv.neD, Dv.isND, Dv.notND, Dv.isN2, Dv.notN2, Dv.sApp, Dv.itL, Dv.itR1, Dv.itR2, Dv.rngL, Dv.zipL, Dv.zipO, Dv.itZ, Dv.enuL, Dv.enuO, Dv.itEn, Dv.wipeD, Dv.keepD, Dv.tY, Dv.sAsg, Dv.sPar, Dv.sPar3, Dv.sAugI, Dv.sDrop, Dv.at_20, Dv.at_21, Dv.at_30, Dv.at_31, Dv.at_32, Dv.at_40, Dv.at_41, Dv.at_42, Dv.at_43, Dv.at_10, Dv.frzs_ints, Dv.cleans_ints, Dv.le_sLine, Dv.sh_non, Dv.sh_bl, Dv.sh_int, Dv.sh_tup, Dv.sh_lst, Dv.eqo_int, Dv.eqo_bl, Dv.eqo_tup, Dv.eqo_lst, Dv.eqos_nil, Dv.eqos_cons, List.all_cons, List.all_nil, Dv.beq_tt, Dv.beq_ff, Dv.beq_tf, Dv.beq_ft, List.getElem?_cons_zero, List.getElem?_cons_succ, List.getElem?_nil, List.set_cons_zero, List.set_cons_succ, List.set_nil, Option.bind_some, Option.bind_none, Option.map_some, Option.map_none, if_true, if_false, ↓reduceIte, decide_true, decide_false, Bool.false_eq_true, Bool.true_and, Bool.and_true, Bool.false_and, Bool.and_false, Bool.not_true, Bool.not_false, Bool.true_or, Bool.or_true, Bool.false_or, Bool.or_false, List.cons_append, List.nil_append, List.length_cons, List.length_nil, List.map_cons, List.map_nil, List.replicate_succ, List.replicate_zero, Nat.reduceAdd, Nat.reduceSub, Nat.reduceLT, Nat.reduceEqDiff, Nat.reduceLeDiff, Int.reduceAdd, Int.reduceSub, Int.reduceMul, Int.reduceNeg, Int.reduceLT, Int.reduceLE, Int.reduceEq, Int.reduceMod, Int.reduceDiv, Int.reduceToNat, Nat.add_zero, Nat.zero_add, List.contains_cons, List.contains_nil, Nat.reduceBEq, beq_self_eq_true, reduceCtorEq, and_true, true_and, and_false, false_and, not_true_eq_false, not_false_eq_true, Dv.mulOk_sz, c0]) ?_
    have m1 : mulOk c e = true := mulOk_sz rfl
    have m2 : mulOk f b = true := mulOk_sz rfl
    have m3 : mulOk a f = true := mulOk_sz rfl
    have m4 : mulOk d c = true := mulOk_sz rfl
    simp only [Dv.get, Dv.xV, Dv.xC, Dv.frz, Dv.frzs, Dv.flat, Dv.flats, Dv.clean, Dv.cleans, Dv.frzSlot, Dv.frz1, Dv.frzAt, Dv.put, Dv.addD, Dv.subD, Dv.mulD, Dv.fdivD, Dv.modD, Dv.negD, Dv.x2, Dv.x1, Dv.xsN, Dv.xsC, Dv.xTup, Dv.xLst, Dv.xCall, Dv.asB, Dv.tOf, Dv.tNot, Dv.tAnd, Dv.tOr, Dv.xB, Dv.xIf, Dv.cmpI, Dv.ltD, Dv.leD, Dv.gtD, Dv.geD, Dv.xAnd, Dv.xOr, Dv.xNot, Dv.sN, Dv.sSeq, Dv.sSet, Dv.sRet, Dv.sRetV, Dv.sIf, Dv.sBk, Dv.sCt, Dv.gN, Dv.gsN, Dv.gsC, Dv.gT, Dv.fnD, Dv.ixD, Dv.slD, Dv.pN, Dv.pI, Dv.xSl, Dv.lenD', Dv.intD, Dv.maxD, Dv.minD, Dv.allD, Dv.anyD, Dv.allB, Dv.listD, Dv.xF, Dv.isiD, Dv.eqD, Dv.neD, Dv.isND, Dv.notND, Dv.isN2, Dv.notN2, Dv.sApp, Dv.itL, Dv.itR1, Dv.itR2, Dv.rngL, Dv.zipL, Dv.zipO, Dv.itZ, Dv.enuL, Dv.enuO, Dv.itEn, Dv.wipeD, Dv.keepD, Dv.tY, Dv.sAsg, Dv.sPar, Dv.sPar3, Dv.sAugI, Dv.sDrop, Dv.at_20, Dv.at_21, Dv.at_30, Dv.at_31, Dv.at_32, Dv.at_40, Dv.at_41, Dv.at_42, Dv.at_43, Dv.at_10, Dv.frzs_ints, Dv.cleans_ints, Dv.le_sLine, Dv.sh_non, Dv.sh_bl, Dv.sh_int, Dv.sh_tup, Dv.sh_lst, Dv.eqo_int, Dv.eqo_bl, Dv.eqo_tup, Dv.eqo_lst, Dv.eqos_nil, Dv.eqos_cons, List.all_cons, List.all_nil, Dv.beq_tt, Dv.beq_ff, Dv.beq_tf, Dv.beq_ft, List.getElem?_cons_zero, List.getElem?_cons_succ, List.getElem?_nil, List.set_cons_zero, List.set_cons_succ, List.set_nil, Option.bind_some, Option.bind_none, Option.map_some, Option.map_none, if_true, if_false, ↓reduceIte, decide_true, decide_false, Bool.false_eq_true, Bool.true_and, Bool.and_true, Bool.false_and, Bool.and_false, Bool.not_true, Bool.not_false, Bool.true_or, Bool.or_true, Bool.false_or, Bool.or_false, List.cons_append, List.nil_append, List.length_cons, List.length_nil, List.map_cons, List.map_nil, List.replicate_succ, List.replicate_zero, Nat.reduceAdd, Nat.reduceSub, Nat.reduceLT, Nat.reduceEqDiff, Nat.reduceLeDiff, Int.reduceAdd, Int.reduceSub, Int.reduceMul, Int.reduceNeg, Int.reduceLT, Int.reduceLE, Int.reduceEq, Int.reduceMod, Int.reduceDiv, Int.reduceToNat, Nat.add_zero, Nat.zero_add, List.contains_cons, List.contains_nil, Nat.reduceBEq, beq_self_eq_true, reduceCtorEq, and_true, true_and, and_false, false_and, not_true_eq_false, not_false_eq_true, sO, m1, m2, m3, m4, c0, h, opO]
theorem hasS_eq (o : Bool) (S : List S3) (hS : ∀ s ∈ S, Bk 1 s) (hn : S.length ≤ 200) {p : S3} (hp : Bk 3 p) : f__law_has [.lst o (S.map sO), sO p] = some (.bl (S.all (holdB p))) := by
  obtain ⟨h1, h2, h3⟩ := hp
  have := has_eq o (S.map sO) (by rw [List.length_map]; omega) (x := p.1) (y := p.2.1) (w := p.2.2) (j := 1) (fun s hs => by
    obtain ⟨q, hq, rfl⟩ := mem_sO hs
    obtain ⟨k1, k2, k3⟩ := hS q hq
    exact ⟨_, _, _, rfl, k1, k2, k3⟩) rfl
  rw [all_holdO] at this
  exact this
end Sm
end
section
set_option Elab.async false
set_option linter.all false
set_option maxRecDepth 100000
namespace Sm
open Dv
/-! the ring is strictly convex -/
end Sm
end
section
set_option Elab.async false
set_option linter.all false
set_option maxRecDepth 100000
namespace Sm
open Dv
/-! the feet -/
abbrev nrm (s : S3) : Int := s.1 * s.1 + s.2.1 * s.2.1
def footS (s : S3) : S3 := (spX (s.1 * s.2.2) (s.2.1 * s.2.2) (nrm s), spY (s.1 * s.2.2) (s.2.1 * s.2.2) (nrm s), spW (s.1 * s.2.2) (s.2.1 * s.2.2) (nrm s))
theorem sq_nonneg (p : Int) : 0 ≤ p * p := by
  rcases Int.le_total 0 p with h | h
  · exact Int.mul_nonneg h h
  · exact Int.mul_nonneg_of_nonpos_of_nonpos h h
theorem nrm_pos {s : S3} (h : Nz s) : 0 < nrm s := by
  have pp := sq_nonneg s.1
  have qq := sq_nonneg s.2.1
  have nz2 : nrm s ≠ 0 := fun e0 => by
    have e0 : s.1 * s.1 + s.2.1 * s.2.1 = 0 := e0
    have p0 : s.1 = 0 := by rcases Int.mul_eq_zero.mp (show s.1 * s.1 = 0 by omega) with h | h <;> exact h
    have q0 : s.2.1 = 0 := by rcases Int.mul_eq_zero.mp (show s.2.1 * s.2.1 = 0 by omega) with h | h <;> exact h
    rcases h with h | h <;> omega
  show 0 < s.1 * s.1 + s.2.1 * s.2.1
  have : s.1 * s.1 + s.2.1 * s.2.1 ≠ 0 := nz2
  omega
theorem foot_eq {s : S3} (hs : Bk 1 s) (hn : Nz s) : f_foot [sO s] = some (sO (footS s)) := by
  obtain ⟨a, b, c⟩ := s
  obtain ⟨h1, h2, h3⟩ := hs
  simp only at h1 h2 h3
  have np := nrm_pos hn
  have hs := spot_eq (x := a * c) (y := b * c) (w := a * a + b * b) (by have : 0 < a * a + b * b := np; omega) rfl
  unfold f_foot s_foot
  have m1 : mulOk a c = true := mulOk_sz rfl
  have m2 : mulOk b c = true := mulOk_sz rfl
  have m3 : mulOk a a = true := mulOk_sz rfl
  have m4 : mulOk b b = true := mulOk_sz rfl
  simp only [Dv.get, Dv.xV, Dv.xC, Dv.frz, Dv.frzs, Dv.flat, Dv.flats, Dv.clean, Dv.cleans, Dv.frzSlot, Dv.frz1, Dv.frzAt, Dv.put, Dv.addD, Dv.subD, Dv.mulD, Dv.fdivD, Dv.modD, Dv.negD, Dv.x2, Dv.x1, Dv.xsN, Dv.xsC, Dv.xTup, Dv.xLst, Dv.xCall, Dv.asB, Dv.tOf, Dv.tNot, Dv.tAnd, Dv.tOr, Dv.xB, Dv.xIf, Dv.cmpI, Dv.ltD, Dv.leD, Dv.gtD, Dv.geD, Dv.xAnd, Dv.xOr, Dv.xNot, Dv.sN, Dv.sSeq, Dv.sSet, Dv.sRet, Dv.sRetV, Dv.sIf, Dv.sBk, Dv.sCt, Dv.gN, Dv.gsN, Dv.gsC, Dv.gT, Dv.fnD, Dv.ixD, Dv.slD, Dv.pN, Dv.pI, Dv.xSl, Dv.lenD', Dv.intD, Dv.maxD, Dv.minD, Dv.allD, Dv.anyD, Dv.allB, Dv.listD, Dv.xF, Dv.isiD, Dv.eqD, Dv.neD, Dv.isND, Dv.notND, Dv.isN2, Dv.notN2, Dv.sApp, Dv.itL, Dv.itR1, Dv.itR2, Dv.rngL, Dv.zipL, Dv.zipO, Dv.itZ, Dv.enuL, Dv.enuO, Dv.itEn, Dv.wipeD, Dv.keepD, Dv.tY, Dv.sAsg, Dv.sPar, Dv.sPar3, Dv.sAugI, Dv.sDrop, Dv.at_20, Dv.at_21, Dv.at_30, Dv.at_31, Dv.at_32, Dv.at_40, Dv.at_41, Dv.at_42, Dv.at_43, Dv.at_10, Dv.frzs_ints, Dv.cleans_ints, Dv.le_sLine, Dv.sh_non, Dv.sh_bl, Dv.sh_int, Dv.sh_tup, Dv.sh_lst, Dv.eqo_int, Dv.eqo_bl, Dv.eqo_tup, Dv.eqo_lst, Dv.eqos_nil, Dv.eqos_cons, List.all_cons, List.all_nil, Dv.beq_tt, Dv.beq_ff, Dv.beq_tf, Dv.beq_ft, List.getElem?_cons_zero, List.getElem?_cons_succ, List.getElem?_nil, List.set_cons_zero, List.set_cons_succ, List.set_nil, Option.bind_some, Option.bind_none, Option.map_some, Option.map_none, if_true, if_false, ↓reduceIte, decide_true, decide_false, Bool.false_eq_true, Bool.true_and, Bool.and_true, Bool.false_and, Bool.and_false, Bool.not_true, Bool.not_false, Bool.true_or, Bool.or_true, Bool.false_or, Bool.or_false, List.cons_append, List.nil_append, List.length_cons, List.length_nil, List.map_cons, List.map_nil, List.replicate_succ, List.replicate_zero, Nat.reduceAdd, Nat.reduceSub, Nat.reduceLT, Nat.reduceEqDiff, Nat.reduceLeDiff, Int.reduceAdd, Int.reduceSub, Int.reduceMul, Int.reduceNeg, Int.reduceLT, Int.reduceLE, Int.reduceEq, Int.reduceMod, Int.reduceDiv, Int.reduceToNat, Nat.add_zero, Nat.zero_add, List.contains_cons, List.contains_nil, Nat.reduceBEq, beq_self_eq_true, reduceCtorEq, and_true, true_and, and_false, false_and, not_true_eq_false, not_false_eq_true, sO, m1, m2, m3, m4, hs]
  rfl
theorem foot_ok {s : S3} (hs : Bk 1 s) (hn : Nz s) : Bk 3 (footS s) ∧ Spt (footS s) ∧ Spot (s.1 * s.2.2) (s.2.1 * s.2.2) (nrm s) (footS s).1 (footS s).2.1 (footS s).2.2 := by
  obtain ⟨h1, h2, h3⟩ := hs
  have np := nrm_pos hn
  obtain ⟨hS, s1, s2, s3⟩ := sp_ok (x := s.1 * s.2.2) (y := s.2.1 * s.2.2) (w := nrm s) (by omega)
  exact ⟨⟨sz_mono s1 (by decide), sz_mono s2 (by decide), sz_mono s3 (by decide)⟩, ⟨hS.w1, hS.g⟩, hS⟩
end Sm
end
section
set_option Elab.async false
set_option linter.all false
set_option maxRecDepth 100000
namespace Sm
open Dv
end Sm
end
section
set_option Elab.async false
set_option linter.all false
set_option maxRecDepth 100000
namespace Sm
open Dv
end Sm
end
section
set_option Elab.async false
set_option linter.all false
set_option maxRecDepth 100000
namespace Sm
open Dv
end Sm
end
section
set_option Elab.async false
set_option linter.all false
set_option maxRecDepth 100000
namespace Sm
open Dv
end Sm
end
section
set_option Elab.async false
set_option linter.all false
set_option maxRecDepth 100000
/-! from a place of the water along a direction to an edge, to a corner -/
namespace Sm
open Dv
end Sm
end
section
set_option Elab.async false
set_option linter.all false
set_option maxRecDepth 100000
/-! farthest places; when sides have no place in common -/
namespace Sm
open Dv
/-- the turn from a direction to a side's -/
def tv (v : S2) (t : S3) : Int := v.1 * t.2.1 - v.2 * t.1
def val (f : S2) (P : S3) : Int := f.1 * P.1 + f.2 * P.2.1
/-- as far at least: f(P)/P ≤ f(Q)/Q -/
def Le (f : S2) (P Q : S3) : Prop := val f P * Q.2.2 ≤ val f Q * P.2.2
theorem Le.trans {f : S2} {P Q R : S3} (wp : 0 < P.2.2) (wq : 0 < Q.2.2) (wr : 0 < R.2.2) (a : Le f P Q) (b : Le f Q R) : Le f P R := by
  unfold Le at *
  have h1 := Int.mul_le_mul_of_nonneg_right a (Int.le_of_lt wr)
  have h2 := Int.mul_le_mul_of_nonneg_right b (Int.le_of_lt wp)
  have h3 : Q.2.2 * (val f P * R.2.2) ≤ Q.2.2 * (val f R * P.2.2) := by
    have e1 : val f P * Q.2.2 * R.2.2 = Q.2.2 * (val f P * R.2.2) := by grind
    have e2 : val f R * Q.2.2 * P.2.2 = Q.2.2 * (val f R * P.2.2) := by grind
    have e3 : val f Q * P.2.2 * R.2.2 = val f Q * R.2.2 * P.2.2 := by grind
    omega
  exact Int.le_of_mul_le_mul_left h3 wq
end Sm
end
section
set_option Elab.async false
set_option linter.all false
set_option maxRecDepth 100000
namespace Sm
open Dv
theorem feet_eq (o : Bool) (S : List S3) (hS : ∀ s ∈ S, Bk 1 s) (hz : ∀ s ∈ S, Nz s) (hn : S.length ≤ 200) : f__law_feet [.lst o (S.map sO)] = some (.lst true ((S.map footS).map sO)) := by
  have key : lcD (gT 3 (gsC (gN 1) (gsC (gN 2) (gsC (gN 3) (gsN))))) (tY) (xCall f__law_spot_of (xsC (x2 mulD (xV 1) (xV 3)) (xsC (x2 mulD (xV 2) (xV 3)) (xsC (x2 addD (x2 mulD (xV 1) (xV 1)) (x2 mulD (xV 2) (xV 2))) (xsN))))) (S.map sO) [some (.lst false (S.map sO)), none, none, none] = some ((S.map footS).map sO) := by
    have : ∀ (R : List S3) (t0 : Option O), (∀ s ∈ R, Bk 1 s ∧ Nz s) → lcD (gT 3 (gsC (gN 1) (gsC (gN 2) (gsC (gN 3) (gsN))))) (tY) (xCall f__law_spot_of (xsC (x2 mulD (xV 1) (xV 3)) (xsC (x2 mulD (xV 2) (xV 3)) (xsC (x2 addD (x2 mulD (xV 1) (xV 1)) (x2 mulD (xV 2) (xV 2))) (xsN))))) (R.map sO) [t0, none, none, none] = some ((R.map footS).map sO) := by
      intro R t0
      induction R with
      | nil => exact fun _ => rfl
      | cons p R ih =>
        intro hR
        have ih := ih fun q h => hR q (List.mem_cons_of_mem _ h)
        obtain ⟨hp, hpz⟩ := hR p List.mem_cons_self
        obtain ⟨a, b, c⟩ := p
        obtain ⟨h1, h2, h3⟩ := hp
        simp only at h1 h2 h3
        have np := nrm_pos hpz
        have hs := spot_ofX (x := a * c) (y := b * c) (w := a * a + b * b) (by have : 0 < a * a + b * b := np; omega) rfl
        have m1 : mulOk a c = true := mulOk_sz rfl
        have m2 : mulOk b c = true := mulOk_sz rfl
        have m3 : mulOk a a = true := mulOk_sz rfl
        have m4 : mulOk b b = true := mulOk_sz rfl
        rw [List.map_cons]
        unfold lcD
        rw [ih]
        simp only [Dv.get, Dv.xV, Dv.xC, Dv.frz, Dv.frzs, Dv.flat, Dv.flats, Dv.clean, Dv.cleans, Dv.frzSlot, Dv.frz1, Dv.frzAt, Dv.put, Dv.addD, Dv.subD, Dv.mulD, Dv.fdivD, Dv.modD, Dv.negD, Dv.x2, Dv.x1, Dv.xsN, Dv.xsC, Dv.xTup, Dv.xLst, Dv.xCall, Dv.asB, Dv.tOf, Dv.tNot, Dv.tAnd, Dv.tOr, Dv.xB, Dv.xIf, Dv.cmpI, Dv.ltD, Dv.leD, Dv.gtD, Dv.geD, Dv.xAnd, Dv.xOr, Dv.xNot, Dv.sN, Dv.sSeq, Dv.sSet, Dv.sRet, Dv.sRetV, Dv.sIf, Dv.sBk, Dv.sCt, Dv.gN, Dv.gsN, Dv.gsC, Dv.gT, Dv.fnD, Dv.ixD, Dv.slD, Dv.pN, Dv.pI, Dv.xSl, Dv.lenD', Dv.intD, Dv.maxD, Dv.minD, Dv.allD, Dv.anyD, Dv.allB, Dv.listD, Dv.xF, Dv.isiD, Dv.eqD, Dv.neD, Dv.isND, Dv.notND, Dv.isN2, Dv.notN2, Dv.sApp, Dv.itL, Dv.itR1, Dv.itR2, Dv.rngL, Dv.zipL, Dv.zipO, Dv.itZ, Dv.enuL, Dv.enuO, Dv.itEn, Dv.wipeD, Dv.keepD, Dv.tY, Dv.sAsg, Dv.sPar, Dv.sPar3, Dv.sAugI, Dv.sDrop, Dv.at_20, Dv.at_21, Dv.at_30, Dv.at_31, Dv.at_32, Dv.at_40, Dv.at_41, Dv.at_42, Dv.at_43, Dv.at_10, Dv.frzs_ints, Dv.cleans_ints, Dv.le_sLine, Dv.sh_non, Dv.sh_bl, Dv.sh_int, Dv.sh_tup, Dv.sh_lst, Dv.eqo_int, Dv.eqo_bl, Dv.eqo_tup, Dv.eqo_lst, Dv.eqos_nil, Dv.eqos_cons, List.all_cons, List.all_nil, Dv.beq_tt, Dv.beq_ff, Dv.beq_tf, Dv.beq_ft, List.getElem?_cons_zero, List.getElem?_cons_succ, List.getElem?_nil, List.set_cons_zero, List.set_cons_succ, List.set_nil, Option.bind_some, Option.bind_none, Option.map_some, Option.map_none, if_true, if_false, ↓reduceIte, decide_true, decide_false, Bool.false_eq_true, Bool.true_and, Bool.and_true, Bool.false_and, Bool.and_false, Bool.not_true, Bool.not_false, Bool.true_or, Bool.or_true, Bool.false_or, Bool.or_false, List.cons_append, List.nil_append, List.length_cons, List.length_nil, List.map_cons, List.map_nil, List.replicate_succ, List.replicate_zero, Nat.reduceAdd, Nat.reduceSub, Nat.reduceLT, Nat.reduceEqDiff, Nat.reduceLeDiff, Int.reduceAdd, Int.reduceSub, Int.reduceMul, Int.reduceNeg, Int.reduceLT, Int.reduceLE, Int.reduceEq, Int.reduceMod, Int.reduceDiv, Int.reduceToNat, Nat.add_zero, Nat.zero_add, List.contains_cons, List.contains_nil, Nat.reduceBEq, beq_self_eq_true, reduceCtorEq, and_true, true_and, and_false, false_and, not_true_eq_false, not_false_eq_true, sO, m1, m2, m3, m4, hs]
        rfl
    exact this S _ fun s h => ⟨hS s h, hz s h⟩
  have sl : (S.length ≤ sLine) = True := eq_true (Nat.le_trans hn (by decide))
  unfold f__law_feet s__law_feet
  refine fnD_of (τ := [some (.lst false (S.map sO)), none, none, none]) rfl (by show [some (O.lst false (frzs (S.map sO)))] ++ _ = _; rw [frzs_sO]; rfl) ?_
  simp (config := {decide := true}) only [Dv.get, Dv.xV, Dv.xC, Dv.frz, Dv.frzs, Dv.flat, Dv.flats, Dv.clean, Dv.cleans, Dv.frzSlot, Dv.frz1, Dv.frzAt, Dv.put, Dv.addD, Dv.subD, Dv.mulD, Dv.fdivD, Dv.modD, Dv.negD, Dv.x2, Dv.x1, Dv.xsN, Dv.xsC, Dv.xTup, Dv.xLst, Dv.xCall, Dv.asB, Dv.tOf, Dv.tNot, Dv.tAnd, Dv.tOr, Dv.xB, Dv.xIf, Dv.cmpI, Dv.ltD, Dv.leD, Dv.gtD, Dv.geD, Dv.xAnd, Dv.xOr, Dv.xNot, Dv.sN, Dv.sSeq, Dv.sSet, Dv.sRet, Dv.sRetV, Dv.sIf, Dv.sBk, Dv.sCt, Dv.gN, Dv.gsN, Dv.gsC, Dv.gT, Dv.fnD, Dv.ixD, Dv.slD, Dv.pN, Dv.pI, Dv.xSl, Dv.lenD', Dv.intD, Dv.maxD, Dv.minD, Dv.allD, Dv.anyD, Dv.allB, Dv.listD, Dv.xF, Dv.isiD, Dv.eqD, Dv.neD, Dv.isND, Dv.notND, Dv.isN2, Dv.notN2, Dv.sApp, Dv.itL, Dv.itR1, Dv.itR2, Dv.rngL, Dv.zipL, Dv.zipO, Dv.itZ, Dv.enuL, Dv.enuO, Dv.itEn, Dv.wipeD, Dv.keepD, Dv.tY, Dv.sAsg, Dv.sPar, Dv.sPar3, Dv.sAugI, Dv.sDrop, Dv.at_20, Dv.at_21, Dv.at_30, Dv.at_31, Dv.at_32, Dv.at_40, Dv.at_41, Dv.at_42, Dv.at_43, Dv.at_10, Dv.frzs_ints, Dv.cleans_ints, Dv.le_sLine, Dv.sh_non, Dv.sh_bl, Dv.sh_int, Dv.sh_tup, Dv.sh_lst, Dv.eqo_int, Dv.eqo_bl, Dv.eqo_tup, Dv.eqo_lst, Dv.eqos_nil, Dv.eqos_cons, List.all_cons, List.all_nil, Dv.beq_tt, Dv.beq_ff, Dv.beq_tf, Dv.beq_ft, List.getElem?_cons_zero, List.getElem?_cons_succ, List.getElem?_nil, List.set_cons_zero, List.set_cons_succ, List.set_nil, Option.bind_some, Option.bind_none, Option.map_some, Option.map_none, if_true, if_false, ↓reduceIte, decide_true, decide_false, Bool.false_eq_true, Bool.true_and, Bool.and_true, Bool.false_and, Bool.and_false, Bool.not_true, Bool.not_false, Bool.true_or, Bool.or_true, Bool.false_or, Bool.or_false, List.cons_append, List.nil_append, List.length_cons, List.length_nil, List.map_cons, List.map_nil, List.replicate_succ, List.replicate_zero, Nat.reduceAdd, Nat.reduceSub, Nat.reduceLT, Nat.reduceEqDiff, Nat.reduceLeDiff, Int.reduceAdd, Int.reduceSub, Int.reduceMul, Int.reduceNeg, Int.reduceLT, Int.reduceLE, Int.reduceEq, Int.reduceMod, Int.reduceDiv, Int.reduceToNat, Nat.add_zero, Nat.zero_add, List.contains_cons, List.contains_nil, Nat.reduceBEq, beq_self_eq_true, reduceCtorEq, and_true, true_and, and_false, false_and, not_true_eq_false, not_false_eq_true, Dv.mulOk_sz, xLc, frzs_sO, len_sO, sl, key]
/-! where nothing was gone: the foot of the nearest edge is a place too -/
end Sm
end
section
set_option Elab.async false
set_option linter.all false
set_option maxRecDepth 100000
/-! sides that have no place in common: two or three of them clash -/
namespace Sm
open Dv
def Cl2 (s t : S3) : Prop := ∃ a b : Int, 0 < a ∧ 0 < b ∧ a * s.1 + b * t.1 = 0 ∧ a * s.2.1 + b * t.2.1 = 0 ∧ a * s.2.2 + b * t.2.2 < 0
theorem Cl2.symm {s t : S3} : Cl2 s t → Cl2 t s := fun ⟨a, b, h1, h2, h3, h4, h5⟩ => ⟨b, a, h2, h1, by omega, by omega, by omega⟩
end Sm
end
section
set_option Elab.async false
set_option linter.all false
set_option maxRecDepth 100000
/-! wide sides: printed by wid.py -/
namespace Sm.Wd
open Dv Sm
theorem holdsS_eq {s p : S3} (hs : Bk 8 s) (hp : Bk 17 p) : f_holds [sO s, sO p] = some (.bl (holdB p s)) := by
  obtain ⟨h1, h2, h3⟩ := hs
  obtain ⟨h4, h5, h6⟩ := hp
  exact holds_eq (mulOk_sz rfl) (mulOk_sz rfl) (mulOk_sz rfl)
theorem in_all_eq (o : Bool) (S : List S3) (hS : ∀ s ∈ S, Bk 8 s) {p : S3} (hp : Bk 17 p) : f_in_all [.lst o (S.map sO), sO p] = some (.bl (S.all (holdB p))) := by
  have loop : ∀ (R : List S3) (o2 : Option O) (s0 : Option O), (∀ s ∈ R, Bk 8 s) → ∃ o2', forD (gN 2) b1_in_all (R.map sO) [s0, some (sO p), o2] = if R.all (holdB p) then some (.nx [s0, some (sO p), o2']) else some (.rt (.bl false)) := by
    intro R
    induction R with
    | nil => exact fun o2 s0 _ => ⟨o2, rfl⟩
    | cons s R ih =>
      intro o2 s0 hR
      have hh := holdsS_eq (hR s List.mem_cons_self) hp
      cases c : holdB p s with
      | true =>
        obtain ⟨o2', h2⟩ := ih (some (sO s)) s0 fun q h => hR q (List.mem_cons_of_mem _ h)
        refine ⟨o2', ?_⟩
        rw [List.map_cons, forD_cons (τ1 := [s0, some (sO p), some (sO s)]) (τ' := [s0, some (sO p), some (sO s)]) rfl (by unfold b1_in_all; rw [c] at hh; simp (config := {decide := true}) only [Dv.get, Dv.xV, Dv.xC, Dv.frz, Dv.frzs, Dv.flat, Dv.flats, Dv.clean, Dv.cleans, Dv.frzSlot, Dv.frz1, Dv.frzAt, Dv.put, Dv.addD, Dv.subD, Dv.mulD, Dv.fdivD, Dv.modD, Dv.negD, Dv.x2, Dv.x1, Dv.xsN, Dv.xsC, Dv.xTup, Dv.xLst, Dv.xCall, Dv.asB, Dv.tOf, Dv.tNot, Dv.tAnd, Dv.tOr, Dv.xB, Dv.xIf, Dv.cmpI, Dv.ltD, Dv.leD, Dv.gtD, Dv.geD, Dv.xAnd, Dv.xOr, Dv.xNot, Dv.sN, Dv.sSeq, Dv.sSet, Dv.sRet, Dv.sRetV, Dv.sIf, Dv.sBk, Dv.sCt, Dv.gN, Dv.gsN, Dv.gsC, Dv.gT, Dv.fnD, Dv.ixD, Dv.slD, Dv.pN, Dv.pI, Dv.xSl, Dv.lenD', Dv.intD, Dv.maxD, Dv.minD, Dv.allD, Dv.anyD, Dv.allB, Dv.listD, Dv.xF, Dv.isiD, Dv.eqD, Dv.neD, Dv.isND, Dv.notND, Dv.isN2, Dv.notN2, Dv.sApp, Dv.itL, Dv.itR1, Dv.itR2, Dv.rngL, Dv.zipL, Dv.zipO, Dv.itZ, Dv.enuL, Dv.enuO, Dv.itEn, Dv.wipeD, Dv.keepD, Dv.tY, Dv.sAsg, Dv.sPar, Dv.sPar3, Dv.sAugI, Dv.sDrop, Dv.at_20, Dv.at_21, Dv.at_30, Dv.at_31, Dv.at_32, Dv.at_40, Dv.at_41, Dv.at_42, Dv.at_43, Dv.at_10, Dv.frzs_ints, Dv.cleans_ints, Dv.le_sLine, Dv.sh_non, Dv.sh_bl, Dv.sh_int, Dv.sh_tup, Dv.sh_lst, Dv.eqo_int, Dv.eqo_bl, Dv.eqo_tup, Dv.eqo_lst, Dv.eqos_nil, Dv.eqos_cons, List.all_cons, List.all_nil, Dv.beq_tt, Dv.beq_ff, Dv.beq_tf, Dv.beq_ft, List.getElem?_cons_zero, List.getElem?_cons_succ, List.getElem?_nil, List.set_cons_zero, List.set_cons_succ, List.set_nil, Option.bind_some, Option.bind_none, Option.map_some, Option.map_none, if_true, if_false, ↓reduceIte, decide_true, decide_false, Bool.false_eq_true, Bool.true_and, Bool.and_true, Bool.false_and, Bool.and_false, Bool.not_true, Bool.not_false, Bool.true_or, Bool.or_true, Bool.false_or, Bool.or_false, List.cons_append, List.nil_append, List.length_cons, List.length_nil, List.map_cons, List.map_nil, List.replicate_succ, List.replicate_zero, Nat.reduceAdd, Nat.reduceSub, Nat.reduceLT, Nat.reduceEqDiff, Nat.reduceLeDiff, Int.reduceAdd, Int.reduceSub, Int.reduceMul, Int.reduceNeg, Int.reduceLT, Int.reduceLE, Int.reduceEq, Int.reduceMod, Int.reduceDiv, Int.reduceToNat, Nat.add_zero, Nat.zero_add, List.contains_cons, List.contains_nil, Nat.reduceBEq, beq_self_eq_true, reduceCtorEq, and_true, true_and, and_false, false_and, not_true_eq_false, not_false_eq_true, Dv.mulOk_sz, frz_sO, hh]), h2, List.all_cons, c, Bool.true_and]
      | false =>
        refine ⟨none, ?_⟩
        rw [List.all_cons, c, Bool.false_and]
        have hb : b1_in_all [s0, some (sO p), some (sO s)] = some (.rt (.bl false)) := by unfold b1_in_all; rw [c] at hh; simp (config := {decide := true}) only [Dv.get, Dv.xV, Dv.xC, Dv.frz, Dv.frzs, Dv.flat, Dv.flats, Dv.clean, Dv.cleans, Dv.frzSlot, Dv.frz1, Dv.frzAt, Dv.put, Dv.addD, Dv.subD, Dv.mulD, Dv.fdivD, Dv.modD, Dv.negD, Dv.x2, Dv.x1, Dv.xsN, Dv.xsC, Dv.xTup, Dv.xLst, Dv.xCall, Dv.asB, Dv.tOf, Dv.tNot, Dv.tAnd, Dv.tOr, Dv.xB, Dv.xIf, Dv.cmpI, Dv.ltD, Dv.leD, Dv.gtD, Dv.geD, Dv.xAnd, Dv.xOr, Dv.xNot, Dv.sN, Dv.sSeq, Dv.sSet, Dv.sRet, Dv.sRetV, Dv.sIf, Dv.sBk, Dv.sCt, Dv.gN, Dv.gsN, Dv.gsC, Dv.gT, Dv.fnD, Dv.ixD, Dv.slD, Dv.pN, Dv.pI, Dv.xSl, Dv.lenD', Dv.intD, Dv.maxD, Dv.minD, Dv.allD, Dv.anyD, Dv.allB, Dv.listD, Dv.xF, Dv.isiD, Dv.eqD, Dv.neD, Dv.isND, Dv.notND, Dv.isN2, Dv.notN2, Dv.sApp, Dv.itL, Dv.itR1, Dv.itR2, Dv.rngL, Dv.zipL, Dv.zipO, Dv.itZ, Dv.enuL, Dv.enuO, Dv.itEn, Dv.wipeD, Dv.keepD, Dv.tY, Dv.sAsg, Dv.sPar, Dv.sPar3, Dv.sAugI, Dv.sDrop, Dv.at_20, Dv.at_21, Dv.at_30, Dv.at_31, Dv.at_32, Dv.at_40, Dv.at_41, Dv.at_42, Dv.at_43, Dv.at_10, Dv.frzs_ints, Dv.cleans_ints, Dv.le_sLine, Dv.sh_non, Dv.sh_bl, Dv.sh_int, Dv.sh_tup, Dv.sh_lst, Dv.eqo_int, Dv.eqo_bl, Dv.eqo_tup, Dv.eqo_lst, Dv.eqos_nil, Dv.eqos_cons, List.all_cons, List.all_nil, Dv.beq_tt, Dv.beq_ff, Dv.beq_tf, Dv.beq_ft, List.getElem?_cons_zero, List.getElem?_cons_succ, List.getElem?_nil, List.set_cons_zero, List.set_cons_succ, List.set_nil, Option.bind_some, Option.bind_none, Option.map_some, Option.map_none, if_true, if_false, ↓reduceIte, decide_true, decide_false, Bool.false_eq_true, Bool.true_and, Bool.and_true, Bool.false_and, Bool.and_false, Bool.not_true, Bool.not_false, Bool.true_or, Bool.or_true, Bool.false_or, Bool.or_false, List.cons_append, List.nil_append, List.length_cons, List.length_nil, List.map_cons, List.map_nil, List.replicate_succ, List.replicate_zero, Nat.reduceAdd, Nat.reduceSub, Nat.reduceLT, Nat.reduceEqDiff, Nat.reduceLeDiff, Int.reduceAdd, Int.reduceSub, Int.reduceMul, Int.reduceNeg, Int.reduceLT, Int.reduceLE, Int.reduceEq, Int.reduceMod, Int.reduceDiv, Int.reduceToNat, Nat.add_zero, Nat.zero_add, List.contains_cons, List.contains_nil, Nat.reduceBEq, beq_self_eq_true, reduceCtorEq, and_true, true_and, and_false, false_and, not_true_eq_false, not_false_eq_true, Dv.mulOk_sz, frz_sO, hh]
        rw [List.map_cons]
        unfold forD
        show (match b1_in_all [s0, some (sO p), some (sO s)] with | some (Fl.nx τ') => forD (gN 2) b1_in_all (R.map sO) τ' | some (.ct τ') => forD (gN 2) b1_in_all (R.map sO) τ' | some (.bk τ') => some (.nx τ') | some (.rt o) => some (.rt o) | none => none) = _
        rw [hb]; rfl
  obtain ⟨o2', h⟩ := loop S none (some (.lst false (S.map sO))) hS
  unfold f_in_all s_in_all
  cases c : S.all (holdB p) with
  | true =>
    rw [c, if_pos rfl] at h
    refine fnD_of (τ := [some (.lst false (S.map sO)), some (sO p), none]) rfl (by show [some (O.lst false (frzs (S.map sO))), some (frz (sO p))] ++ _ = _; rw [frzs_sO]; rfl) ?_
    refine seq_nx (τ' := [some (.lst false (S.map sO)), some (sO p), o2']) (by simp (config := {decide := true}) only [Dv.get, Dv.xV, Dv.xC, Dv.frz, Dv.frzs, Dv.flat, Dv.flats, Dv.clean, Dv.cleans, Dv.frzSlot, Dv.frz1, Dv.frzAt, Dv.put, Dv.addD, Dv.subD, Dv.mulD, Dv.fdivD, Dv.modD, Dv.negD, Dv.x2, Dv.x1, Dv.xsN, Dv.xsC, Dv.xTup, Dv.xLst, Dv.xCall, Dv.asB, Dv.tOf, Dv.tNot, Dv.tAnd, Dv.tOr, Dv.xB, Dv.xIf, Dv.cmpI, Dv.ltD, Dv.leD, Dv.gtD, Dv.geD, Dv.xAnd, Dv.xOr, Dv.xNot, Dv.sN, Dv.sSeq, Dv.sSet, Dv.sRet, Dv.sRetV, Dv.sIf, Dv.sBk, Dv.sCt, Dv.gN, Dv.gsN, Dv.gsC, Dv.gT, Dv.fnD, Dv.ixD, Dv.slD, Dv.pN, Dv.pI, Dv.xSl, Dv.lenD', Dv.intD, Dv.maxD, Dv.minD, Dv.allD, Dv.anyD, Dv.allB, Dv.listD, Dv.xF, Dv.isiD, Dv.eqD, Dv.neD, Dv.isND, Dv.notND, Dv.isN2, Dv.notN2, Dv.sApp, Dv.itL, Dv.itR1, Dv.itR2, Dv.rngL, Dv.zipL, Dv.zipO, Dv.itZ, Dv.enuL, Dv.enuO, Dv.itEn, Dv.wipeD, Dv.keepD, Dv.tY, Dv.sAsg, Dv.sPar, Dv.sPar3, Dv.sAugI, Dv.sDrop, Dv.at_20, Dv.at_21, Dv.at_30, Dv.at_31, Dv.at_32, Dv.at_40, Dv.at_41, Dv.at_42, Dv.at_43, Dv.at_10, Dv.frzs_ints, Dv.cleans_ints, Dv.le_sLine, Dv.sh_non, Dv.sh_bl, Dv.sh_int, Dv.sh_tup, Dv.sh_lst, Dv.eqo_int, Dv.eqo_bl, Dv.eqo_tup, Dv.eqo_lst, Dv.eqos_nil, Dv.eqos_cons, List.all_cons, List.all_nil, Dv.beq_tt, Dv.beq_ff, Dv.beq_tf, Dv.beq_ft, List.getElem?_cons_zero, List.getElem?_cons_succ, List.getElem?_nil, List.set_cons_zero, List.set_cons_succ, List.set_nil, Option.bind_some, Option.bind_none, Option.map_some, Option.map_none, if_true, if_false, ↓reduceIte, decide_true, decide_false, Bool.false_eq_true, Bool.true_and, Bool.and_true, Bool.false_and, Bool.and_false, Bool.not_true, Bool.not_false, Bool.true_or, Bool.or_true, Bool.false_or, Bool.or_false, List.cons_append, List.nil_append, List.length_cons, List.length_nil, List.map_cons, List.map_nil, List.replicate_succ, List.replicate_zero, Nat.reduceAdd, Nat.reduceSub, Nat.reduceLT, Nat.reduceEqDiff, Nat.reduceLeDiff, Int.reduceAdd, Int.reduceSub, Int.reduceMul, Int.reduceNeg, Int.reduceLT, Int.reduceLE, Int.reduceEq, Int.reduceMod, Int.reduceDiv, Int.reduceToNat, Nat.add_zero, Nat.zero_add, List.contains_cons, List.contains_nil, Nat.reduceBEq, beq_self_eq_true, reduceCtorEq, and_true, true_and, and_false, false_and, not_true_eq_false, not_false_eq_true, Dv.mulOk_sz, sFor, frzs_sO, h]) ?_
    simp (config := {decide := true}) only [Dv.get, Dv.xV, Dv.xC, Dv.frz, Dv.frzs, Dv.flat, Dv.flats, Dv.clean, Dv.cleans, Dv.frzSlot, Dv.frz1, Dv.frzAt, Dv.put, Dv.addD, Dv.subD, Dv.mulD, Dv.fdivD, Dv.modD, Dv.negD, Dv.x2, Dv.x1, Dv.xsN, Dv.xsC, Dv.xTup, Dv.xLst, Dv.xCall, Dv.asB, Dv.tOf, Dv.tNot, Dv.tAnd, Dv.tOr, Dv.xB, Dv.xIf, Dv.cmpI, Dv.ltD, Dv.leD, Dv.gtD, Dv.geD, Dv.xAnd, Dv.xOr, Dv.xNot, Dv.sN, Dv.sSeq, Dv.sSet, Dv.sRet, Dv.sRetV, Dv.sIf, Dv.sBk, Dv.sCt, Dv.gN, Dv.gsN, Dv.gsC, Dv.gT, Dv.fnD, Dv.ixD, Dv.slD, Dv.pN, Dv.pI, Dv.xSl, Dv.lenD', Dv.intD, Dv.maxD, Dv.minD, Dv.allD, Dv.anyD, Dv.allB, Dv.listD, Dv.xF, Dv.isiD, Dv.eqD, Dv.neD, Dv.isND, Dv.notND, Dv.isN2, Dv.notN2, Dv.sApp, Dv.itL, Dv.itR1, Dv.itR2, Dv.rngL, Dv.zipL, Dv.zipO, Dv.itZ, Dv.enuL, Dv.enuO, Dv.itEn, Dv.wipeD, Dv.keepD, Dv.tY, Dv.sAsg, Dv.sPar, Dv.sPar3, Dv.sAugI, Dv.sDrop, Dv.at_20, Dv.at_21, Dv.at_30, Dv.at_31, Dv.at_32, Dv.at_40, Dv.at_41, Dv.at_42, Dv.at_43, Dv.at_10, Dv.frzs_ints, Dv.cleans_ints, Dv.le_sLine, Dv.sh_non, Dv.sh_bl, Dv.sh_int, Dv.sh_tup, Dv.sh_lst, Dv.eqo_int, Dv.eqo_bl, Dv.eqo_tup, Dv.eqo_lst, Dv.eqos_nil, Dv.eqos_cons, List.all_cons, List.all_nil, Dv.beq_tt, Dv.beq_ff, Dv.beq_tf, Dv.beq_ft, List.getElem?_cons_zero, List.getElem?_cons_succ, List.getElem?_nil, List.set_cons_zero, List.set_cons_succ, List.set_nil, Option.bind_some, Option.bind_none, Option.map_some, Option.map_none, if_true, if_false, ↓reduceIte, decide_true, decide_false, Bool.false_eq_true, Bool.true_and, Bool.and_true, Bool.false_and, Bool.and_false, Bool.not_true, Bool.not_false, Bool.true_or, Bool.or_true, Bool.false_or, Bool.or_false, List.cons_append, List.nil_append, List.length_cons, List.length_nil, List.map_cons, List.map_nil, List.replicate_succ, List.replicate_zero, Nat.reduceAdd, Nat.reduceSub, Nat.reduceLT, Nat.reduceEqDiff, Nat.reduceLeDiff, Int.reduceAdd, Int.reduceSub, Int.reduceMul, Int.reduceNeg, Int.reduceLT, Int.reduceLE, Int.reduceEq, Int.reduceMod, Int.reduceDiv, Int.reduceToNat, Nat.add_zero, Nat.zero_add, List.contains_cons, List.contains_nil, Nat.reduceBEq, beq_self_eq_true, reduceCtorEq, and_true, true_and, and_false, false_and, not_true_eq_false, not_false_eq_true, Dv.mulOk_sz]
  | false =>
    rw [c, if_neg Bool.false_ne_true] at h
    refine fnD_of (τ := [some (.lst false (S.map sO)), some (sO p), none]) rfl (by show [some (O.lst false (frzs (S.map sO))), some (frz (sO p))] ++ _ = _; rw [frzs_sO]; rfl) ?_
    exact seq_rt (by simp (config := {decide := true}) only [Dv.get, Dv.xV, Dv.xC, Dv.frz, Dv.frzs, Dv.flat, Dv.flats, Dv.clean, Dv.cleans, Dv.frzSlot, Dv.frz1, Dv.frzAt, Dv.put, Dv.addD, Dv.subD, Dv.mulD, Dv.fdivD, Dv.modD, Dv.negD, Dv.x2, Dv.x1, Dv.xsN, Dv.xsC, Dv.xTup, Dv.xLst, Dv.xCall, Dv.asB, Dv.tOf, Dv.tNot, Dv.tAnd, Dv.tOr, Dv.xB, Dv.xIf, Dv.cmpI, Dv.ltD, Dv.leD, Dv.gtD, Dv.geD, Dv.xAnd, Dv.xOr, Dv.xNot, Dv.sN, Dv.sSeq, Dv.sSet, Dv.sRet, Dv.sRetV, Dv.sIf, Dv.sBk, Dv.sCt, Dv.gN, Dv.gsN, Dv.gsC, Dv.gT, Dv.fnD, Dv.ixD, Dv.slD, Dv.pN, Dv.pI, Dv.xSl, Dv.lenD', Dv.intD, Dv.maxD, Dv.minD, Dv.allD, Dv.anyD, Dv.allB, Dv.listD, Dv.xF, Dv.isiD, Dv.eqD, Dv.neD, Dv.isND, Dv.notND, Dv.isN2, Dv.notN2, Dv.sApp, Dv.itL, Dv.itR1, Dv.itR2, Dv.rngL, Dv.zipL, Dv.zipO, Dv.itZ, Dv.enuL, Dv.enuO, Dv.itEn, Dv.wipeD, Dv.keepD, Dv.tY, Dv.sAsg, Dv.sPar, Dv.sPar3, Dv.sAugI, Dv.sDrop, Dv.at_20, Dv.at_21, Dv.at_30, Dv.at_31, Dv.at_32, Dv.at_40, Dv.at_41, Dv.at_42, Dv.at_43, Dv.at_10, Dv.frzs_ints, Dv.cleans_ints, Dv.le_sLine, Dv.sh_non, Dv.sh_bl, Dv.sh_int, Dv.sh_tup, Dv.sh_lst, Dv.eqo_int, Dv.eqo_bl, Dv.eqo_tup, Dv.eqo_lst, Dv.eqos_nil, Dv.eqos_cons, List.all_cons, List.all_nil, Dv.beq_tt, Dv.beq_ff, Dv.beq_tf, Dv.beq_ft, List.getElem?_cons_zero, List.getElem?_cons_succ, List.getElem?_nil, List.set_cons_zero, List.set_cons_succ, List.set_nil, Option.bind_some, Option.bind_none, Option.map_some, Option.map_none, if_true, if_false, ↓reduceIte, decide_true, decide_false, Bool.false_eq_true, Bool.true_and, Bool.and_true, Bool.false_and, Bool.and_false, Bool.not_true, Bool.not_false, Bool.true_or, Bool.or_true, Bool.false_or, Bool.or_false, List.cons_append, List.nil_append, List.length_cons, List.length_nil, List.map_cons, List.map_nil, List.replicate_succ, List.replicate_zero, Nat.reduceAdd, Nat.reduceSub, Nat.reduceLT, Nat.reduceEqDiff, Nat.reduceLeDiff, Int.reduceAdd, Int.reduceSub, Int.reduceMul, Int.reduceNeg, Int.reduceLT, Int.reduceLE, Int.reduceEq, Int.reduceMod, Int.reduceDiv, Int.reduceToNat, Nat.add_zero, Nat.zero_add, List.contains_cons, List.contains_nil, Nat.reduceBEq, beq_self_eq_true, reduceCtorEq, and_true, true_and, and_false, false_and, not_true_eq_false, not_false_eq_true, Dv.mulOk_sz, sFor, frzs_sO, h])
theorem hasS_eq (o : Bool) (S : List S3) (hS : ∀ s ∈ S, Bk 8 s) (hn : S.length ≤ 200) {p : S3} (hp : Bk 17 p) : f__law_has [.lst o (S.map sO), sO p] = some (.bl (S.all (holdB p))) := by
  obtain ⟨h1, h2, h3⟩ := hp
  have := has_eq o (S.map sO) (by rw [List.length_map]; omega) (x := p.1) (y := p.2.1) (w := p.2.2) (j := 8) (fun s hs => by
    obtain ⟨q, hq, rfl⟩ := mem_sO hs
    obtain ⟨k1, k2, k3⟩ := hS q hq
    exact ⟨_, _, _, rfl, k1, k2, k3⟩) rfl
  rw [all_holdO] at this
  exact this
end Sm.Wd
end
section
set_option Elab.async false
set_option linter.all false
set_option maxRecDepth 100000
/-! steps by hand: what an expression gives, from what its parts give; lists of flat items -/
namespace Sm
open Dv
theorem x2_of {f : O → O → Option O} {a b : SE} {τ : Sl} {x y o : O} (ha : a τ = some x) (hb : b τ = some y) (h : f x y = some o) : x2 f a b τ = some o := by
  unfold x2
  rw [ha, hb]
  exact h
theorem ret_of {a : SE} {τ : Sl} {o : O} (h : a τ = some o) : sRet a τ = some (.rt o) := by
  unfold sRet
  rw [h]; rfl
theorem put_cl {ns : List Nat} {i : Nat} {o : O} {τ : Sl} (h : clean o = true) : Dv.put ns i o τ = τ.set i (some o) := by
  unfold Dv.put
  rw [if_pos h]
theorem set_cl {ns : List Nat} {i : Nat} {a : SE} {τ : Sl} {o : O} (h : a τ = some o) (c : clean o = true) : sSet ns i a τ = some (.nx (τ.set i (some o))) := set_nx h (put_cl c)
theorem xCall_g {f : List O → Option O} {r : SEs} {τ : Sl} {xs : List O} {o : O} (h : r τ = some xs) (k : f (frzs xs) = some o) : xCall f r τ = some o := by
  unfold xCall
  rw [h]
  exact k
theorem xF_g {f : List O → Option O} {r : SEs} {τ : Sl} {xs : List O} {o : O} (h : r τ = some xs) (k : f xs = some o) : xF f r τ = some o := by
  unfold xF
  rw [h]
  exact k
theorem xs1 {a : SE} {τ : Sl} {x : O} (ha : a τ = some x) : xsC a xsN τ = some [x] := by
  unfold xsC xsN
  rw [ha]; rfl
theorem xs2 {a b : SE} {τ : Sl} {x y : O} (ha : a τ = some x) (hb : b τ = some y) : xsC a (xsC b xsN) τ = some [x, y] := by
  unfold xsC xsN
  rw [ha, hb]; rfl
theorem xTup_of {r : SEs} {τ : Sl} {xs : List O} (h : r τ = some xs) (l : xs.length ≤ 1000) : xTup r τ = some (.tup xs) := by
  unfold xTup
  rw [h]
  show (if xs.length ≤ sLine then some (O.tup xs) else none) = _
  rw [if_pos (Nat.le_trans l (by decide))]
theorem xSl_of {a : SE} {lo hi : SP} {τ : Sl} {x o : O} {l h : Option Int} (ha : a τ = some x) (hl : lo τ = some l) (hh : hi τ = some h) (e : slD x l h = some o) : xSl a lo hi τ = some o := by
  unfold xSl
  rw [ha, Option.bind_some, hl, Option.bind_some, hh]
  exact e
theorem pI_of {a : SE} {τ : Sl} {i : Int} (h : a τ = some (.int i)) : pI a τ = some (some i) := by
  unfold pI
  rw [h]; rfl
theorem tOf_of {a : SE} {τ : Sl} {b : Bool} (h : a τ = some (.bl b)) : tOf a τ = some b := by
  unfold tOf
  rw [h]; rfl
theorem tNot_of {a : ST} {τ : Sl} {b : Bool} (h : a τ = some b) : Dv.tNot a τ = some (!b) := by
  unfold Dv.tNot
  rw [h]; rfl
theorem tAnd_of {a b : ST} {τ : Sl} {x y : Bool} (h : a τ = some x) (k : x = true → b τ = some y) : Dv.tAnd a b τ = some (x && y) := by
  unfold Dv.tAnd
  rw [h]
  cases x with
  | true => exact k rfl
  | false => rfl
theorem tOr_of {a b : ST} {τ : Sl} {x y : Bool} (h : a τ = some x) (k : x = false → b τ = some y) : Dv.tOr a b τ = some (x || y) := by
  unfold Dv.tOr
  rw [h]
  cases x with
  | true => rfl
  | false => exact k rfl
theorem eqII (a b : Int) : eqD (.int a) (.int b) = some (.bl (decide (a = b))) := by
  by_cases h : a = b
  · have := eq_true h; simp (config := {decide := true}) only [Dv.get, Dv.xV, Dv.xC, Dv.frz, Dv.frzs, Dv.flat, Dv.flats, Dv.clean, Dv.cleans, Dv.frzSlot, Dv.frz1, Dv.frzAt, Dv.put, Dv.addD, Dv.subD, Dv.mulD, Dv.fdivD, Dv.modD, Dv.negD, Dv.x2, Dv.x1, Dv.xsN, Dv.xsC, Dv.xTup, Dv.xLst, Dv.xCall, Dv.asB, Dv.tOf, Dv.tNot, Dv.tAnd, Dv.tOr, Dv.xB, Dv.xIf, Dv.cmpI, Dv.ltD, Dv.leD, Dv.gtD, Dv.geD, Dv.xAnd, Dv.xOr, Dv.xNot, Dv.sN, Dv.sSeq, Dv.sSet, Dv.sRet, Dv.sRetV, Dv.sIf, Dv.sBk, Dv.sCt, Dv.gN, Dv.gsN, Dv.gsC, Dv.gT, Dv.fnD, Dv.ixD, Dv.slD, Dv.pN, Dv.pI, Dv.xSl, Dv.lenD', Dv.intD, Dv.maxD, Dv.minD, Dv.allD, Dv.anyD, Dv.allB, Dv.listD, Dv.xF, Dv.isiD, Dv.eqD, Dv.neD, Dv.isND, Dv.notND, Dv.isN2, Dv.notN2, Dv.sApp, Dv.itL, Dv.itR1, Dv.itR2, Dv.rngL, Dv.zipL, Dv.zipO, Dv.itZ, Dv.enuL, Dv.enuO, Dv.itEn, Dv.wipeD, Dv.keepD, Dv.tY, Dv.sAsg, Dv.sPar, Dv.sPar3, Dv.sAugI, Dv.sDrop, Dv.at_20, Dv.at_21, Dv.at_30, Dv.at_31, Dv.at_32, Dv.at_40, Dv.at_41, Dv.at_42, Dv.at_43, Dv.at_10, Dv.frzs_ints, Dv.cleans_ints, Dv.le_sLine, Dv.sh_non, Dv.sh_bl, Dv.sh_int, Dv.sh_tup, Dv.sh_lst, Dv.eqo_int, Dv.eqo_bl, Dv.eqo_tup, Dv.eqo_lst, Dv.eqos_nil, Dv.eqos_cons, List.all_cons, List.all_nil, Dv.beq_tt, Dv.beq_ff, Dv.beq_tf, Dv.beq_ft, List.getElem?_cons_zero, List.getElem?_cons_succ, List.getElem?_nil, List.set_cons_zero, List.set_cons_succ, List.set_nil, Option.bind_some, Option.bind_none, Option.map_some, Option.map_none, if_true, if_false, ↓reduceIte, decide_true, decide_false, Bool.false_eq_true, Bool.true_and, Bool.and_true, Bool.false_and, Bool.and_false, Bool.not_true, Bool.not_false, Bool.true_or, Bool.or_true, Bool.false_or, Bool.or_false, List.cons_append, List.nil_append, List.length_cons, List.length_nil, List.map_cons, List.map_nil, List.replicate_succ, List.replicate_zero, Nat.reduceAdd, Nat.reduceSub, Nat.reduceLT, Nat.reduceEqDiff, Nat.reduceLeDiff, Int.reduceAdd, Int.reduceSub, Int.reduceMul, Int.reduceNeg, Int.reduceLT, Int.reduceLE, Int.reduceEq, Int.reduceMod, Int.reduceDiv, Int.reduceToNat, Nat.add_zero, Nat.zero_add, List.contains_cons, List.contains_nil, Nat.reduceBEq, beq_self_eq_true, reduceCtorEq, and_true, true_and, and_false, false_and, not_true_eq_false, not_false_eq_true, Dv.mulOk_sz, this]
  · have := eq_false h; simp (config := {decide := true}) only [Dv.get, Dv.xV, Dv.xC, Dv.frz, Dv.frzs, Dv.flat, Dv.flats, Dv.clean, Dv.cleans, Dv.frzSlot, Dv.frz1, Dv.frzAt, Dv.put, Dv.addD, Dv.subD, Dv.mulD, Dv.fdivD, Dv.modD, Dv.negD, Dv.x2, Dv.x1, Dv.xsN, Dv.xsC, Dv.xTup, Dv.xLst, Dv.xCall, Dv.asB, Dv.tOf, Dv.tNot, Dv.tAnd, Dv.tOr, Dv.xB, Dv.xIf, Dv.cmpI, Dv.ltD, Dv.leD, Dv.gtD, Dv.geD, Dv.xAnd, Dv.xOr, Dv.xNot, Dv.sN, Dv.sSeq, Dv.sSet, Dv.sRet, Dv.sRetV, Dv.sIf, Dv.sBk, Dv.sCt, Dv.gN, Dv.gsN, Dv.gsC, Dv.gT, Dv.fnD, Dv.ixD, Dv.slD, Dv.pN, Dv.pI, Dv.xSl, Dv.lenD', Dv.intD, Dv.maxD, Dv.minD, Dv.allD, Dv.anyD, Dv.allB, Dv.listD, Dv.xF, Dv.isiD, Dv.eqD, Dv.neD, Dv.isND, Dv.notND, Dv.isN2, Dv.notN2, Dv.sApp, Dv.itL, Dv.itR1, Dv.itR2, Dv.rngL, Dv.zipL, Dv.zipO, Dv.itZ, Dv.enuL, Dv.enuO, Dv.itEn, Dv.wipeD, Dv.keepD, Dv.tY, Dv.sAsg, Dv.sPar, Dv.sPar3, Dv.sAugI, Dv.sDrop, Dv.at_20, Dv.at_21, Dv.at_30, Dv.at_31, Dv.at_32, Dv.at_40, Dv.at_41, Dv.at_42, Dv.at_43, Dv.at_10, Dv.frzs_ints, Dv.cleans_ints, Dv.le_sLine, Dv.sh_non, Dv.sh_bl, Dv.sh_int, Dv.sh_tup, Dv.sh_lst, Dv.eqo_int, Dv.eqo_bl, Dv.eqo_tup, Dv.eqo_lst, Dv.eqos_nil, Dv.eqos_cons, List.all_cons, List.all_nil, Dv.beq_tt, Dv.beq_ff, Dv.beq_tf, Dv.beq_ft, List.getElem?_cons_zero, List.getElem?_cons_succ, List.getElem?_nil, List.set_cons_zero, List.set_cons_succ, List.set_nil, Option.bind_some, Option.bind_none, Option.map_some, Option.map_none, if_true, if_false, ↓reduceIte, decide_true, decide_false, Bool.false_eq_true, Bool.true_and, Bool.and_true, Bool.false_and, Bool.and_false, Bool.not_true, Bool.not_false, Bool.true_or, Bool.or_true, Bool.false_or, Bool.or_false, List.cons_append, List.nil_append, List.length_cons, List.length_nil, List.map_cons, List.map_nil, List.replicate_succ, List.replicate_zero, Nat.reduceAdd, Nat.reduceSub, Nat.reduceLT, Nat.reduceEqDiff, Nat.reduceLeDiff, Int.reduceAdd, Int.reduceSub, Int.reduceMul, Int.reduceNeg, Int.reduceLT, Int.reduceLE, Int.reduceEq, Int.reduceMod, Int.reduceDiv, Int.reduceToNat, Nat.add_zero, Nat.zero_add, List.contains_cons, List.contains_nil, Nat.reduceBEq, beq_self_eq_true, reduceCtorEq, and_true, true_and, and_false, false_and, not_true_eq_false, not_false_eq_true, Dv.mulOk_sz, this]
theorem neII (a b : Int) : neD (.int a) (.int b) = some (.bl (!decide (a = b))) := by
  by_cases h : a = b
  · have := eq_true h; simp (config := {decide := true}) only [Dv.get, Dv.xV, Dv.xC, Dv.frz, Dv.frzs, Dv.flat, Dv.flats, Dv.clean, Dv.cleans, Dv.frzSlot, Dv.frz1, Dv.frzAt, Dv.put, Dv.addD, Dv.subD, Dv.mulD, Dv.fdivD, Dv.modD, Dv.negD, Dv.x2, Dv.x1, Dv.xsN, Dv.xsC, Dv.xTup, Dv.xLst, Dv.xCall, Dv.asB, Dv.tOf, Dv.tNot, Dv.tAnd, Dv.tOr, Dv.xB, Dv.xIf, Dv.cmpI, Dv.ltD, Dv.leD, Dv.gtD, Dv.geD, Dv.xAnd, Dv.xOr, Dv.xNot, Dv.sN, Dv.sSeq, Dv.sSet, Dv.sRet, Dv.sRetV, Dv.sIf, Dv.sBk, Dv.sCt, Dv.gN, Dv.gsN, Dv.gsC, Dv.gT, Dv.fnD, Dv.ixD, Dv.slD, Dv.pN, Dv.pI, Dv.xSl, Dv.lenD', Dv.intD, Dv.maxD, Dv.minD, Dv.allD, Dv.anyD, Dv.allB, Dv.listD, Dv.xF, Dv.isiD, Dv.eqD, Dv.neD, Dv.isND, Dv.notND, Dv.isN2, Dv.notN2, Dv.sApp, Dv.itL, Dv.itR1, Dv.itR2, Dv.rngL, Dv.zipL, Dv.zipO, Dv.itZ, Dv.enuL, Dv.enuO, Dv.itEn, Dv.wipeD, Dv.keepD, Dv.tY, Dv.sAsg, Dv.sPar, Dv.sPar3, Dv.sAugI, Dv.sDrop, Dv.at_20, Dv.at_21, Dv.at_30, Dv.at_31, Dv.at_32, Dv.at_40, Dv.at_41, Dv.at_42, Dv.at_43, Dv.at_10, Dv.frzs_ints, Dv.cleans_ints, Dv.le_sLine, Dv.sh_non, Dv.sh_bl, Dv.sh_int, Dv.sh_tup, Dv.sh_lst, Dv.eqo_int, Dv.eqo_bl, Dv.eqo_tup, Dv.eqo_lst, Dv.eqos_nil, Dv.eqos_cons, List.all_cons, List.all_nil, Dv.beq_tt, Dv.beq_ff, Dv.beq_tf, Dv.beq_ft, List.getElem?_cons_zero, List.getElem?_cons_succ, List.getElem?_nil, List.set_cons_zero, List.set_cons_succ, List.set_nil, Option.bind_some, Option.bind_none, Option.map_some, Option.map_none, if_true, if_false, ↓reduceIte, decide_true, decide_false, Bool.false_eq_true, Bool.true_and, Bool.and_true, Bool.false_and, Bool.and_false, Bool.not_true, Bool.not_false, Bool.true_or, Bool.or_true, Bool.false_or, Bool.or_false, List.cons_append, List.nil_append, List.length_cons, List.length_nil, List.map_cons, List.map_nil, List.replicate_succ, List.replicate_zero, Nat.reduceAdd, Nat.reduceSub, Nat.reduceLT, Nat.reduceEqDiff, Nat.reduceLeDiff, Int.reduceAdd, Int.reduceSub, Int.reduceMul, Int.reduceNeg, Int.reduceLT, Int.reduceLE, Int.reduceEq, Int.reduceMod, Int.reduceDiv, Int.reduceToNat, Nat.add_zero, Nat.zero_add, List.contains_cons, List.contains_nil, Nat.reduceBEq, beq_self_eq_true, reduceCtorEq, and_true, true_and, and_false, false_and, not_true_eq_false, not_false_eq_true, Dv.mulOk_sz, this]
  · have := eq_false h; simp (config := {decide := true}) only [Dv.get, Dv.xV, Dv.xC, Dv.frz, Dv.frzs, Dv.flat, Dv.flats, Dv.clean, Dv.cleans, Dv.frzSlot, Dv.frz1, Dv.frzAt, Dv.put, Dv.addD, Dv.subD, Dv.mulD, Dv.fdivD, Dv.modD, Dv.negD, Dv.x2, Dv.x1, Dv.xsN, Dv.xsC, Dv.xTup, Dv.xLst, Dv.xCall, Dv.asB, Dv.tOf, Dv.tNot, Dv.tAnd, Dv.tOr, Dv.xB, Dv.xIf, Dv.cmpI, Dv.ltD, Dv.leD, Dv.gtD, Dv.geD, Dv.xAnd, Dv.xOr, Dv.xNot, Dv.sN, Dv.sSeq, Dv.sSet, Dv.sRet, Dv.sRetV, Dv.sIf, Dv.sBk, Dv.sCt, Dv.gN, Dv.gsN, Dv.gsC, Dv.gT, Dv.fnD, Dv.ixD, Dv.slD, Dv.pN, Dv.pI, Dv.xSl, Dv.lenD', Dv.intD, Dv.maxD, Dv.minD, Dv.allD, Dv.anyD, Dv.allB, Dv.listD, Dv.xF, Dv.isiD, Dv.eqD, Dv.neD, Dv.isND, Dv.notND, Dv.isN2, Dv.notN2, Dv.sApp, Dv.itL, Dv.itR1, Dv.itR2, Dv.rngL, Dv.zipL, Dv.zipO, Dv.itZ, Dv.enuL, Dv.enuO, Dv.itEn, Dv.wipeD, Dv.keepD, Dv.tY, Dv.sAsg, Dv.sPar, Dv.sPar3, Dv.sAugI, Dv.sDrop, Dv.at_20, Dv.at_21, Dv.at_30, Dv.at_31, Dv.at_32, Dv.at_40, Dv.at_41, Dv.at_42, Dv.at_43, Dv.at_10, Dv.frzs_ints, Dv.cleans_ints, Dv.le_sLine, Dv.sh_non, Dv.sh_bl, Dv.sh_int, Dv.sh_tup, Dv.sh_lst, Dv.eqo_int, Dv.eqo_bl, Dv.eqo_tup, Dv.eqo_lst, Dv.eqos_nil, Dv.eqos_cons, List.all_cons, List.all_nil, Dv.beq_tt, Dv.beq_ff, Dv.beq_tf, Dv.beq_ft, List.getElem?_cons_zero, List.getElem?_cons_succ, List.getElem?_nil, List.set_cons_zero, List.set_cons_succ, List.set_nil, Option.bind_some, Option.bind_none, Option.map_some, Option.map_none, if_true, if_false, ↓reduceIte, decide_true, decide_false, Bool.false_eq_true, Bool.true_and, Bool.and_true, Bool.false_and, Bool.and_false, Bool.not_true, Bool.not_false, Bool.true_or, Bool.or_true, Bool.false_or, Bool.or_false, List.cons_append, List.nil_append, List.length_cons, List.length_nil, List.map_cons, List.map_nil, List.replicate_succ, List.replicate_zero, Nat.reduceAdd, Nat.reduceSub, Nat.reduceLT, Nat.reduceEqDiff, Nat.reduceLeDiff, Int.reduceAdd, Int.reduceSub, Int.reduceMul, Int.reduceNeg, Int.reduceLT, Int.reduceLE, Int.reduceEq, Int.reduceMod, Int.reduceDiv, Int.reduceToNat, Nat.add_zero, Nat.zero_add, List.contains_cons, List.contains_nil, Nat.reduceBEq, beq_self_eq_true, reduceCtorEq, and_true, true_and, and_false, false_and, not_true_eq_false, not_false_eq_true, Dv.mulOk_sz, this]
/-- a way to write data as flat values -/
class Enc {α : Type} (e : α → O) : Prop where
  fl : ∀ a, flat (e a) = true
section
variable {α : Type} {e : α → O} [Enc e]
theorem enc_frzs (L : List α) : frzs (L.map e) = L.map e := frzs_flat' fun x h => by
  obtain ⟨a, _, rfl⟩ := List.mem_map.mp h
  exact Enc.fl a
theorem enc_flats (L : List α) : flats (L.map e) = true := by
  rw [flats_eq, List.all_eq_true]
  intro x h
  obtain ⟨a, _, rfl⟩ := List.mem_map.mp h
  exact Enc.fl a
theorem enc_cleans (L : List α) : cleans (L.map e) = true := cleans_of_flats (enc_flats L)
theorem enc_lcl (L : List α) : clean (.lst true (L.map e)) = true := by
  show (true && cleans (L.map e)) = true
  rw [enc_cleans]; rfl
theorem enc_lfr (o : Bool) (L : List α) : frz (.lst o (L.map e)) = .lst false (L.map e) := by
  show O.lst false (frzs (L.map e)) = _
  rw [enc_frzs]
theorem enc_add {o p : Bool} {A B : List α} (h : A.length + B.length ≤ 10000) : addD (.lst o (A.map e)) (.lst p (B.map e)) = some (.lst true ((A ++ B).map e)) := by
  show (if (A.map e).length + (B.map e).length ≤ sLine then some (O.lst true (frzs (A.map e) ++ frzs (B.map e))) else none) = _
  rw [if_pos (by rw [List.length_map, List.length_map]; exact Nat.le_trans h (by decide)), enc_frzs, enc_frzs, List.map_append]
omit [Enc e] in
theorem enc_sl {o : Bool} {A : List α} {lo hi : Option Int} : slD (.lst o (A.map e)) lo hi = some (.lst true ((cut A lo hi).map e)) := by
  show some (O.lst true (cut (A.map e) lo hi)) = _
  rw [cut_map]
theorem enc_lst (o : Bool) (A : List α) : listE [.lst o (A.map e)] = some (.lst true (A.map e)) := by
  show some (O.lst true (frzs (A.map e))) = _
  rw [enc_frzs]
omit [Enc e] in
theorem enc_len {r : SE} {τ : Sl} {o : Bool} {A : List α} (h : r τ = some (.lst o (A.map e))) : xF lenD' (xsC r xsN) τ = some (.int A.length) := by
  refine xF_g (xs1 h) ?_
  show some (O.int ((A.map e).length : Int)) = _
  rw [List.length_map]
theorem enc_xV {i : Nat} {τ : Sl} {o : Bool} {A : List α} (h : τ[i]? = some (some (.lst o (A.map e)))) : xV i τ = some (.lst false (A.map e)) := by
  unfold xV Dv.get
  rw [h]
  show some (frz (.lst o (A.map e))) = _
  rw [enc_lfr]
theorem enc_itL {r : SE} {τ : Sl} {o : Bool} {A : List α} (h : r τ = some (.lst o (A.map e))) : itL r τ = some (A.map e) := by
  unfold itL
  rw [h]; rfl
end
instance : Enc pO := ⟨fun _ => rfl⟩
instance : Enc sO := ⟨fun _ => rfl⟩
instance : Enc O.int := ⟨fun _ => rfl⟩
theorem itR1_n {a : SE} {τ : Sl} {n : Nat} (ha : a τ = some (.int n)) (h : n ≤ 100000) : itR1 a τ = some (rngL 0 n) := by
  unfold itR1
  rw [ha, Option.bind_some]
  refine if_pos ⟨Int.le_trans (by decide) (show (0 : Int) ≤ n by omega), Int.lt_of_le_of_lt (show (n : Int) ≤ 100000 by omega) (by decide)⟩
theorem for_R1 {a : SE} {τ : Sl} {n : Nat} {g : TGd} {b : SS} {ns : List Nat} (ha : a τ = some (.int n)) (h : n ≤ 100000) (hf : frzAt ns τ = τ) : sFor ns (itR1 a) g b τ = forD g b (rngL ((0 : Nat) : Int) n) τ := by
  unfold sFor
  rw [itR1_n ha h, Option.bind_some, frzs_rng, hf]
  rfl
/-- a comprehension over data -/
theorem lcD_mapL {α β : Type} {e : α → O} {e' : β → O} {f : α → β} {g : TGd} {x : SE} {τ : Sl} : ∀ {A : List α}, (∀ a ∈ A, ∃ τ1, g (e a) τ = some τ1 ∧ x τ1 = some (e' (f a))) → lcD g tY x (A.map e) τ = some ((A.map f).map e')
  | [], _ => rfl
  | a :: A, h => by
    obtain ⟨τ1, h1, h2⟩ := h a List.mem_cons_self
    have ih := lcD_mapL (e' := e') (f := f) fun b hb => h b (List.mem_cons_of_mem _ hb)
    rw [List.map_cons, List.map_cons, List.map_cons]
    unfold lcD
    rw [h1, Option.bind_some]
    show (Option.bind (some true) _) = _
    rw [Option.bind_some, if_pos rfl, h2, Option.bind_some, ih]
    rfl
theorem xLc_of {ns vs : List Nat} {it : SEs} {g : TGd} {t : ST} {x : SE} {τ τ1 : Sl} {xs os : List O} (hi : it τ = some xs) (hl : xs.length ≤ 10000) (hw : wipeD vs (keepD ns 0 τ) = τ1) (h : lcD g t x (frzs xs) τ1 = some os) : xLc ns vs it g t x τ = some (.lst true os) := by
  unfold xLc
  rw [hi, Option.bind_some, if_pos (Nat.le_trans hl (by decide)), hw, h]
  rfl
theorem xF_1 {f : List O → Option O} {e : SE} {τ : Sl} {v r : O} (h : e τ = some v) (k : f [v] = some r) : xF f (xsC e xsN) τ = some r := by
  unfold xF xsC xsN
  rw [h]
  exact k
end Sm
end
section
set_option Elab.async false
set_option linter.all false
set_option maxRecDepth 100000
namespace Sm
open Dv
theorem way_eq (a b w : Int) (hw : 1 ≤ w) (hw2 : w ≤ 1000000) : ∃ x y, f__law_way [.int a, .int b, .int w] = some (.tup [.int x, .int y]) ∧ (x ≠ 0 ∨ y ≠ 0) ∧ (-w ≤ x ∧ x ≤ w) ∧ (-w ≤ y ∧ y ≤ w) := by
  have hm : 0 < 2 * w + 1 := by omega
  haveI : Sz 1 w := sz1 (by omega) (by omega)
  have x0 := Int.emod_nonneg a (b := 2 * w + 1) (by omega)
  have x1 := Int.emod_lt_of_pos a hm
  have y0 := Int.emod_nonneg b (b := 2 * w + 1) (by omega)
  have y1 := Int.emod_lt_of_pos b hm
  obtain ⟨X, hX⟩ : ∃ X, a % (2 * w + 1) - w = X := ⟨_, rfl⟩
  obtain ⟨Y, hY⟩ : ∃ Y, b % (2 * w + 1) - w = Y := ⟨_, rfl⟩
  haveI : Sz 1 (a % 2) := sz1 (by omega) (by omega)
  by_cases h : X = 0 ∧ Y = 0
  · refine ⟨1 - 2 * (a % 2), Y, ?_, by omega, by omega, by omega⟩
    unfold f__law_way s__law_way
    refine fnD_of rfl rfl ?_
    refine Dv.seq_nx (by simp (config := {decide := true}) only [Dv.get, Dv.xV, Dv.xC, Dv.frz, Dv.frzs, Dv.flat, Dv.flats, Dv.clean, Dv.cleans, Dv.frzSlot, Dv.frz1, Dv.frzAt, Dv.put, Dv.addD, Dv.subD, Dv.mulD, Dv.fdivD, Dv.modD, Dv.negD, Dv.x2, Dv.x1, Dv.xsN, Dv.xsC, Dv.xTup, Dv.xLst, Dv.xCall, Dv.asB, Dv.tOf, Dv.tNot, Dv.tAnd, Dv.tOr, Dv.xB, Dv.xIf, Dv.cmpI, Dv.ltD, Dv.leD, Dv.gtD, Dv.geD, Dv.xAnd, Dv.xOr, Dv.xNot, Dv.sN, Dv.sSeq, Dv.sSet, Dv.sRet, Dv.sRetV, Dv.sIf, Dv.sBk, Dv.sCt, Dv.gN, Dv.gsN, Dv.gsC, Dv.gT, Dv.fnD, Dv.ixD, Dv.slD, Dv.pN, Dv.pI, Dv.xSl, Dv.lenD', Dv.intD, Dv.maxD, Dv.minD, Dv.allD, Dv.anyD, Dv.allB, Dv.listD, Dv.xF, Dv.isiD, Dv.eqD, Dv.neD, Dv.isND, Dv.notND, Dv.isN2, Dv.notN2, Dv.sApp, Dv.itL, Dv.itR1, Dv.itR2, Dv.rngL, Dv.zipL, Dv.zipO, Dv.itZ, Dv.enuL, Dv.enuO, Dv.itEn, Dv.wipeD, Dv.keepD, Dv.tY, Dv.sAsg, Dv.sPar, Dv.sPar3, Dv.sAugI, Dv.sDrop, Dv.at_20, Dv.at_21, Dv.at_30, Dv.at_31, Dv.at_32, Dv.at_40, Dv.at_41, Dv.at_42, Dv.at_43, Dv.at_10, Dv.frzs_ints, Dv.cleans_ints, Dv.le_sLine, Dv.sh_non, Dv.sh_bl, Dv.sh_int, Dv.sh_tup, Dv.sh_lst, Dv.eqo_int, Dv.eqo_bl, Dv.eqo_tup, Dv.eqo_lst, Dv.eqos_nil, Dv.eqos_cons, List.all_cons, List.all_nil, Dv.beq_tt, Dv.beq_ff, Dv.beq_tf, Dv.beq_ft, List.getElem?_cons_zero, List.getElem?_cons_succ, List.getElem?_nil, List.set_cons_zero, List.set_cons_succ, List.set_nil, Option.bind_some, Option.bind_none, Option.map_some, Option.map_none, if_true, if_false, ↓reduceIte, decide_true, decide_false, Bool.false_eq_true, Bool.true_and, Bool.and_true, Bool.false_and, Bool.and_false, Bool.not_true, Bool.not_false, Bool.true_or, Bool.or_true, Bool.false_or, Bool.or_false, List.cons_append, List.nil_append, List.length_cons, List.length_nil, List.map_cons, List.map_nil, List.replicate_succ, List.replicate_zero, Nat.reduceAdd, Nat.reduceSub, Nat.reduceLT, Nat.reduceEqDiff, Nat.reduceLeDiff, Int.reduceAdd, Int.reduceSub, Int.reduceMul, Int.reduceNeg, Int.reduceLT, Int.reduceLE, Int.reduceEq, Int.reduceMod, Int.reduceDiv, Int.reduceToNat, Nat.add_zero, Nat.zero_add, List.contains_cons, List.contains_nil, Nat.reduceBEq, beq_self_eq_true, reduceCtorEq, and_true, true_and, and_false, false_and, not_true_eq_false, not_false_eq_true, Dv.mulOk_sz, hm, hX] <;> rfl) ?_
    refine Dv.seq_nx (by simp (config := {decide := true}) only [Dv.get, Dv.xV, Dv.xC, Dv.frz, Dv.frzs, Dv.flat, Dv.flats, Dv.clean, Dv.cleans, Dv.frzSlot, Dv.frz1, Dv.frzAt, Dv.put, Dv.addD, Dv.subD, Dv.mulD, Dv.fdivD, Dv.modD, Dv.negD, Dv.x2, Dv.x1, Dv.xsN, Dv.xsC, Dv.xTup, Dv.xLst, Dv.xCall, Dv.asB, Dv.tOf, Dv.tNot, Dv.tAnd, Dv.tOr, Dv.xB, Dv.xIf, Dv.cmpI, Dv.ltD, Dv.leD, Dv.gtD, Dv.geD, Dv.xAnd, Dv.xOr, Dv.xNot, Dv.sN, Dv.sSeq, Dv.sSet, Dv.sRet, Dv.sRetV, Dv.sIf, Dv.sBk, Dv.sCt, Dv.gN, Dv.gsN, Dv.gsC, Dv.gT, Dv.fnD, Dv.ixD, Dv.slD, Dv.pN, Dv.pI, Dv.xSl, Dv.lenD', Dv.intD, Dv.maxD, Dv.minD, Dv.allD, Dv.anyD, Dv.allB, Dv.listD, Dv.xF, Dv.isiD, Dv.eqD, Dv.neD, Dv.isND, Dv.notND, Dv.isN2, Dv.notN2, Dv.sApp, Dv.itL, Dv.itR1, Dv.itR2, Dv.rngL, Dv.zipL, Dv.zipO, Dv.itZ, Dv.enuL, Dv.enuO, Dv.itEn, Dv.wipeD, Dv.keepD, Dv.tY, Dv.sAsg, Dv.sPar, Dv.sPar3, Dv.sAugI, Dv.sDrop, Dv.at_20, Dv.at_21, Dv.at_30, Dv.at_31, Dv.at_32, Dv.at_40, Dv.at_41, Dv.at_42, Dv.at_43, Dv.at_10, Dv.frzs_ints, Dv.cleans_ints, Dv.le_sLine, Dv.sh_non, Dv.sh_bl, Dv.sh_int, Dv.sh_tup, Dv.sh_lst, Dv.eqo_int, Dv.eqo_bl, Dv.eqo_tup, Dv.eqo_lst, Dv.eqos_nil, Dv.eqos_cons, List.all_cons, List.all_nil, Dv.beq_tt, Dv.beq_ff, Dv.beq_tf, Dv.beq_ft, List.getElem?_cons_zero, List.getElem?_cons_succ, List.getElem?_nil, List.set_cons_zero, List.set_cons_succ, List.set_nil, Option.bind_some, Option.bind_none, Option.map_some, Option.map_none, if_true, if_false, ↓reduceIte, decide_true, decide_false, Bool.false_eq_true, Bool.true_and, Bool.and_true, Bool.false_and, Bool.and_false, Bool.not_true, Bool.not_false, Bool.true_or, Bool.or_true, Bool.false_or, Bool.or_false, List.cons_append, List.nil_append, List.length_cons, List.length_nil, List.map_cons, List.map_nil, List.replicate_succ, List.replicate_zero, Nat.reduceAdd, Nat.reduceSub, Nat.reduceLT, Nat.reduceEqDiff, Nat.reduceLeDiff, Int.reduceAdd, Int.reduceSub, Int.reduceMul, Int.reduceNeg, Int.reduceLT, Int.reduceLE, Int.reduceEq, Int.reduceMod, Int.reduceDiv, Int.reduceToNat, Nat.add_zero, Nat.zero_add, List.contains_cons, List.contains_nil, Nat.reduceBEq, beq_self_eq_true, reduceCtorEq, and_true, true_and, and_false, false_and, not_true_eq_false, not_false_eq_true, Dv.mulOk_sz, hm, hY] <;> rfl) ?_
    refine Dv.seq_nx (by simp (config := {decide := true}) only [Dv.get, Dv.xV, Dv.xC, Dv.frz, Dv.frzs, Dv.flat, Dv.flats, Dv.clean, Dv.cleans, Dv.frzSlot, Dv.frz1, Dv.frzAt, Dv.put, Dv.addD, Dv.subD, Dv.mulD, Dv.fdivD, Dv.modD, Dv.negD, Dv.x2, Dv.x1, Dv.xsN, Dv.xsC, Dv.xTup, Dv.xLst, Dv.xCall, Dv.asB, Dv.tOf, Dv.tNot, Dv.tAnd, Dv.tOr, Dv.xB, Dv.xIf, Dv.cmpI, Dv.ltD, Dv.leD, Dv.gtD, Dv.geD, Dv.xAnd, Dv.xOr, Dv.xNot, Dv.sN, Dv.sSeq, Dv.sSet, Dv.sRet, Dv.sRetV, Dv.sIf, Dv.sBk, Dv.sCt, Dv.gN, Dv.gsN, Dv.gsC, Dv.gT, Dv.fnD, Dv.ixD, Dv.slD, Dv.pN, Dv.pI, Dv.xSl, Dv.lenD', Dv.intD, Dv.maxD, Dv.minD, Dv.allD, Dv.anyD, Dv.allB, Dv.listD, Dv.xF, Dv.isiD, Dv.eqD, Dv.neD, Dv.isND, Dv.notND, Dv.isN2, Dv.notN2, Dv.sApp, Dv.itL, Dv.itR1, Dv.itR2, Dv.rngL, Dv.zipL, Dv.zipO, Dv.itZ, Dv.enuL, Dv.enuO, Dv.itEn, Dv.wipeD, Dv.keepD, Dv.tY, Dv.sAsg, Dv.sPar, Dv.sPar3, Dv.sAugI, Dv.sDrop, Dv.at_20, Dv.at_21, Dv.at_30, Dv.at_31, Dv.at_32, Dv.at_40, Dv.at_41, Dv.at_42, Dv.at_43, Dv.at_10, Dv.frzs_ints, Dv.cleans_ints, Dv.le_sLine, Dv.sh_non, Dv.sh_bl, Dv.sh_int, Dv.sh_tup, Dv.sh_lst, Dv.eqo_int, Dv.eqo_bl, Dv.eqo_tup, Dv.eqo_lst, Dv.eqos_nil, Dv.eqos_cons, List.all_cons, List.all_nil, Dv.beq_tt, Dv.beq_ff, Dv.beq_tf, Dv.beq_ft, List.getElem?_cons_zero, List.getElem?_cons_succ, List.getElem?_nil, List.set_cons_zero, List.set_cons_succ, List.set_nil, Option.bind_some, Option.bind_none, Option.map_some, Option.map_none, if_true, if_false, ↓reduceIte, decide_true, decide_false, Bool.false_eq_true, Bool.true_and, Bool.and_true, Bool.false_and, Bool.and_false, Bool.not_true, Bool.not_false, Bool.true_or, Bool.or_true, Bool.false_or, Bool.or_false, List.cons_append, List.nil_append, List.length_cons, List.length_nil, List.map_cons, List.map_nil, List.replicate_succ, List.replicate_zero, Nat.reduceAdd, Nat.reduceSub, Nat.reduceLT, Nat.reduceEqDiff, Nat.reduceLeDiff, Int.reduceAdd, Int.reduceSub, Int.reduceMul, Int.reduceNeg, Int.reduceLT, Int.reduceLE, Int.reduceEq, Int.reduceMod, Int.reduceDiv, Int.reduceToNat, Nat.add_zero, Nat.zero_add, List.contains_cons, List.contains_nil, Nat.reduceBEq, beq_self_eq_true, reduceCtorEq, and_true, true_and, and_false, false_and, not_true_eq_false, not_false_eq_true, Dv.mulOk_sz, h.1, h.2] <;> rfl) ?_
    simp (config := {decide := true}) only [Dv.get, Dv.xV, Dv.xC, Dv.frz, Dv.frzs, Dv.flat, Dv.flats, Dv.clean, Dv.cleans, Dv.frzSlot, Dv.frz1, Dv.frzAt, Dv.put, Dv.addD, Dv.subD, Dv.mulD, Dv.fdivD, Dv.modD, Dv.negD, Dv.x2, Dv.x1, Dv.xsN, Dv.xsC, Dv.xTup, Dv.xLst, Dv.xCall, Dv.asB, Dv.tOf, Dv.tNot, Dv.tAnd, Dv.tOr, Dv.xB, Dv.xIf, Dv.cmpI, Dv.ltD, Dv.leD, Dv.gtD, Dv.geD, Dv.xAnd, Dv.xOr, Dv.xNot, Dv.sN, Dv.sSeq, Dv.sSet, Dv.sRet, Dv.sRetV, Dv.sIf, Dv.sBk, Dv.sCt, Dv.gN, Dv.gsN, Dv.gsC, Dv.gT, Dv.fnD, Dv.ixD, Dv.slD, Dv.pN, Dv.pI, Dv.xSl, Dv.lenD', Dv.intD, Dv.maxD, Dv.minD, Dv.allD, Dv.anyD, Dv.allB, Dv.listD, Dv.xF, Dv.isiD, Dv.eqD, Dv.neD, Dv.isND, Dv.notND, Dv.isN2, Dv.notN2, Dv.sApp, Dv.itL, Dv.itR1, Dv.itR2, Dv.rngL, Dv.zipL, Dv.zipO, Dv.itZ, Dv.enuL, Dv.enuO, Dv.itEn, Dv.wipeD, Dv.keepD, Dv.tY, Dv.sAsg, Dv.sPar, Dv.sPar3, Dv.sAugI, Dv.sDrop, Dv.at_20, Dv.at_21, Dv.at_30, Dv.at_31, Dv.at_32, Dv.at_40, Dv.at_41, Dv.at_42, Dv.at_43, Dv.at_10, Dv.frzs_ints, Dv.cleans_ints, Dv.le_sLine, Dv.sh_non, Dv.sh_bl, Dv.sh_int, Dv.sh_tup, Dv.sh_lst, Dv.eqo_int, Dv.eqo_bl, Dv.eqo_tup, Dv.eqo_lst, Dv.eqos_nil, Dv.eqos_cons, List.all_cons, List.all_nil, Dv.beq_tt, Dv.beq_ff, Dv.beq_tf, Dv.beq_ft, List.getElem?_cons_zero, List.getElem?_cons_succ, List.getElem?_nil, List.set_cons_zero, List.set_cons_succ, List.set_nil, Option.bind_some, Option.bind_none, Option.map_some, Option.map_none, if_true, if_false, ↓reduceIte, decide_true, decide_false, Bool.false_eq_true, Bool.true_and, Bool.and_true, Bool.false_and, Bool.and_false, Bool.not_true, Bool.not_false, Bool.true_or, Bool.or_true, Bool.false_or, Bool.or_false, List.cons_append, List.nil_append, List.length_cons, List.length_nil, List.map_cons, List.map_nil, List.replicate_succ, List.replicate_zero, Nat.reduceAdd, Nat.reduceSub, Nat.reduceLT, Nat.reduceEqDiff, Nat.reduceLeDiff, Int.reduceAdd, Int.reduceSub, Int.reduceMul, Int.reduceNeg, Int.reduceLT, Int.reduceLE, Int.reduceEq, Int.reduceMod, Int.reduceDiv, Int.reduceToNat, Nat.add_zero, Nat.zero_add, List.contains_cons, List.contains_nil, Nat.reduceBEq, beq_self_eq_true, reduceCtorEq, and_true, true_and, and_false, false_and, not_true_eq_false, not_false_eq_true, Dv.mulOk_sz, h.2]
  · refine ⟨X, Y, ?_, by omega, by omega, by omega⟩
    unfold f__law_way s__law_way
    refine fnD_of rfl rfl ?_
    refine Dv.seq_nx (by simp (config := {decide := true}) only [Dv.get, Dv.xV, Dv.xC, Dv.frz, Dv.frzs, Dv.flat, Dv.flats, Dv.clean, Dv.cleans, Dv.frzSlot, Dv.frz1, Dv.frzAt, Dv.put, Dv.addD, Dv.subD, Dv.mulD, Dv.fdivD, Dv.modD, Dv.negD, Dv.x2, Dv.x1, Dv.xsN, Dv.xsC, Dv.xTup, Dv.xLst, Dv.xCall, Dv.asB, Dv.tOf, Dv.tNot, Dv.tAnd, Dv.tOr, Dv.xB, Dv.xIf, Dv.cmpI, Dv.ltD, Dv.leD, Dv.gtD, Dv.geD, Dv.xAnd, Dv.xOr, Dv.xNot, Dv.sN, Dv.sSeq, Dv.sSet, Dv.sRet, Dv.sRetV, Dv.sIf, Dv.sBk, Dv.sCt, Dv.gN, Dv.gsN, Dv.gsC, Dv.gT, Dv.fnD, Dv.ixD, Dv.slD, Dv.pN, Dv.pI, Dv.xSl, Dv.lenD', Dv.intD, Dv.maxD, Dv.minD, Dv.allD, Dv.anyD, Dv.allB, Dv.listD, Dv.xF, Dv.isiD, Dv.eqD, Dv.neD, Dv.isND, Dv.notND, Dv.isN2, Dv.notN2, Dv.sApp, Dv.itL, Dv.itR1, Dv.itR2, Dv.rngL, Dv.zipL, Dv.zipO, Dv.itZ, Dv.enuL, Dv.enuO, Dv.itEn, Dv.wipeD, Dv.keepD, Dv.tY, Dv.sAsg, Dv.sPar, Dv.sPar3, Dv.sAugI, Dv.sDrop, Dv.at_20, Dv.at_21, Dv.at_30, Dv.at_31, Dv.at_32, Dv.at_40, Dv.at_41, Dv.at_42, Dv.at_43, Dv.at_10, Dv.frzs_ints, Dv.cleans_ints, Dv.le_sLine, Dv.sh_non, Dv.sh_bl, Dv.sh_int, Dv.sh_tup, Dv.sh_lst, Dv.eqo_int, Dv.eqo_bl, Dv.eqo_tup, Dv.eqo_lst, Dv.eqos_nil, Dv.eqos_cons, List.all_cons, List.all_nil, Dv.beq_tt, Dv.beq_ff, Dv.beq_tf, Dv.beq_ft, List.getElem?_cons_zero, List.getElem?_cons_succ, List.getElem?_nil, List.set_cons_zero, List.set_cons_succ, List.set_nil, Option.bind_some, Option.bind_none, Option.map_some, Option.map_none, if_true, if_false, ↓reduceIte, decide_true, decide_false, Bool.false_eq_true, Bool.true_and, Bool.and_true, Bool.false_and, Bool.and_false, Bool.not_true, Bool.not_false, Bool.true_or, Bool.or_true, Bool.false_or, Bool.or_false, List.cons_append, List.nil_append, List.length_cons, List.length_nil, List.map_cons, List.map_nil, List.replicate_succ, List.replicate_zero, Nat.reduceAdd, Nat.reduceSub, Nat.reduceLT, Nat.reduceEqDiff, Nat.reduceLeDiff, Int.reduceAdd, Int.reduceSub, Int.reduceMul, Int.reduceNeg, Int.reduceLT, Int.reduceLE, Int.reduceEq, Int.reduceMod, Int.reduceDiv, Int.reduceToNat, Nat.add_zero, Nat.zero_add, List.contains_cons, List.contains_nil, Nat.reduceBEq, beq_self_eq_true, reduceCtorEq, and_true, true_and, and_false, false_and, not_true_eq_false, not_false_eq_true, Dv.mulOk_sz, hm, hX] <;> rfl) ?_
    refine Dv.seq_nx (by simp (config := {decide := true}) only [Dv.get, Dv.xV, Dv.xC, Dv.frz, Dv.frzs, Dv.flat, Dv.flats, Dv.clean, Dv.cleans, Dv.frzSlot, Dv.frz1, Dv.frzAt, Dv.put, Dv.addD, Dv.subD, Dv.mulD, Dv.fdivD, Dv.modD, Dv.negD, Dv.x2, Dv.x1, Dv.xsN, Dv.xsC, Dv.xTup, Dv.xLst, Dv.xCall, Dv.asB, Dv.tOf, Dv.tNot, Dv.tAnd, Dv.tOr, Dv.xB, Dv.xIf, Dv.cmpI, Dv.ltD, Dv.leD, Dv.gtD, Dv.geD, Dv.xAnd, Dv.xOr, Dv.xNot, Dv.sN, Dv.sSeq, Dv.sSet, Dv.sRet, Dv.sRetV, Dv.sIf, Dv.sBk, Dv.sCt, Dv.gN, Dv.gsN, Dv.gsC, Dv.gT, Dv.fnD, Dv.ixD, Dv.slD, Dv.pN, Dv.pI, Dv.xSl, Dv.lenD', Dv.intD, Dv.maxD, Dv.minD, Dv.allD, Dv.anyD, Dv.allB, Dv.listD, Dv.xF, Dv.isiD, Dv.eqD, Dv.neD, Dv.isND, Dv.notND, Dv.isN2, Dv.notN2, Dv.sApp, Dv.itL, Dv.itR1, Dv.itR2, Dv.rngL, Dv.zipL, Dv.zipO, Dv.itZ, Dv.enuL, Dv.enuO, Dv.itEn, Dv.wipeD, Dv.keepD, Dv.tY, Dv.sAsg, Dv.sPar, Dv.sPar3, Dv.sAugI, Dv.sDrop, Dv.at_20, Dv.at_21, Dv.at_30, Dv.at_31, Dv.at_32, Dv.at_40, Dv.at_41, Dv.at_42, Dv.at_43, Dv.at_10, Dv.frzs_ints, Dv.cleans_ints, Dv.le_sLine, Dv.sh_non, Dv.sh_bl, Dv.sh_int, Dv.sh_tup, Dv.sh_lst, Dv.eqo_int, Dv.eqo_bl, Dv.eqo_tup, Dv.eqo_lst, Dv.eqos_nil, Dv.eqos_cons, List.all_cons, List.all_nil, Dv.beq_tt, Dv.beq_ff, Dv.beq_tf, Dv.beq_ft, List.getElem?_cons_zero, List.getElem?_cons_succ, List.getElem?_nil, List.set_cons_zero, List.set_cons_succ, List.set_nil, Option.bind_some, Option.bind_none, Option.map_some, Option.map_none, if_true, if_false, ↓reduceIte, decide_true, decide_false, Bool.false_eq_true, Bool.true_and, Bool.and_true, Bool.false_and, Bool.and_false, Bool.not_true, Bool.not_false, Bool.true_or, Bool.or_true, Bool.false_or, Bool.or_false, List.cons_append, List.nil_append, List.length_cons, List.length_nil, List.map_cons, List.map_nil, List.replicate_succ, List.replicate_zero, Nat.reduceAdd, Nat.reduceSub, Nat.reduceLT, Nat.reduceEqDiff, Nat.reduceLeDiff, Int.reduceAdd, Int.reduceSub, Int.reduceMul, Int.reduceNeg, Int.reduceLT, Int.reduceLE, Int.reduceEq, Int.reduceMod, Int.reduceDiv, Int.reduceToNat, Nat.add_zero, Nat.zero_add, List.contains_cons, List.contains_nil, Nat.reduceBEq, beq_self_eq_true, reduceCtorEq, and_true, true_and, and_false, false_and, not_true_eq_false, not_false_eq_true, Dv.mulOk_sz, hm, hY] <;> rfl) ?_
    refine seq_nx (τ' := [some (.int a), some (.int b), some (.int w), some (.int X), some (.int Y)]) ?_ ?_
    · by_cases hx : X = 0
      · have hy : ¬ Y = 0 := fun e => h ⟨hx, e⟩
        simp (config := {decide := true}) only [Dv.get, Dv.xV, Dv.xC, Dv.frz, Dv.frzs, Dv.flat, Dv.flats, Dv.clean, Dv.cleans, Dv.frzSlot, Dv.frz1, Dv.frzAt, Dv.put, Dv.addD, Dv.subD, Dv.mulD, Dv.fdivD, Dv.modD, Dv.negD, Dv.x2, Dv.x1, Dv.xsN, Dv.xsC, Dv.xTup, Dv.xLst, Dv.xCall, Dv.asB, Dv.tOf, Dv.tNot, Dv.tAnd, Dv.tOr, Dv.xB, Dv.xIf, Dv.cmpI, Dv.ltD, Dv.leD, Dv.gtD, Dv.geD, Dv.xAnd, Dv.xOr, Dv.xNot, Dv.sN, Dv.sSeq, Dv.sSet, Dv.sRet, Dv.sRetV, Dv.sIf, Dv.sBk, Dv.sCt, Dv.gN, Dv.gsN, Dv.gsC, Dv.gT, Dv.fnD, Dv.ixD, Dv.slD, Dv.pN, Dv.pI, Dv.xSl, Dv.lenD', Dv.intD, Dv.maxD, Dv.minD, Dv.allD, Dv.anyD, Dv.allB, Dv.listD, Dv.xF, Dv.isiD, Dv.eqD, Dv.neD, Dv.isND, Dv.notND, Dv.isN2, Dv.notN2, Dv.sApp, Dv.itL, Dv.itR1, Dv.itR2, Dv.rngL, Dv.zipL, Dv.zipO, Dv.itZ, Dv.enuL, Dv.enuO, Dv.itEn, Dv.wipeD, Dv.keepD, Dv.tY, Dv.sAsg, Dv.sPar, Dv.sPar3, Dv.sAugI, Dv.sDrop, Dv.at_20, Dv.at_21, Dv.at_30, Dv.at_31, Dv.at_32, Dv.at_40, Dv.at_41, Dv.at_42, Dv.at_43, Dv.at_10, Dv.frzs_ints, Dv.cleans_ints, Dv.le_sLine, Dv.sh_non, Dv.sh_bl, Dv.sh_int, Dv.sh_tup, Dv.sh_lst, Dv.eqo_int, Dv.eqo_bl, Dv.eqo_tup, Dv.eqo_lst, Dv.eqos_nil, Dv.eqos_cons, List.all_cons, List.all_nil, Dv.beq_tt, Dv.beq_ff, Dv.beq_tf, Dv.beq_ft, List.getElem?_cons_zero, List.getElem?_cons_succ, List.getElem?_nil, List.set_cons_zero, List.set_cons_succ, List.set_nil, Option.bind_some, Option.bind_none, Option.map_some, Option.map_none, if_true, if_false, ↓reduceIte, decide_true, decide_false, Bool.false_eq_true, Bool.true_and, Bool.and_true, Bool.false_and, Bool.and_false, Bool.not_true, Bool.not_false, Bool.true_or, Bool.or_true, Bool.false_or, Bool.or_false, List.cons_append, List.nil_append, List.length_cons, List.length_nil, List.map_cons, List.map_nil, List.replicate_succ, List.replicate_zero, Nat.reduceAdd, Nat.reduceSub, Nat.reduceLT, Nat.reduceEqDiff, Nat.reduceLeDiff, Int.reduceAdd, Int.reduceSub, Int.reduceMul, Int.reduceNeg, Int.reduceLT, Int.reduceLE, Int.reduceEq, Int.reduceMod, Int.reduceDiv, Int.reduceToNat, Nat.add_zero, Nat.zero_add, List.contains_cons, List.contains_nil, Nat.reduceBEq, beq_self_eq_true, reduceCtorEq, and_true, true_and, and_false, false_and, not_true_eq_false, not_false_eq_true, Dv.mulOk_sz, hx, hy]
      · simp (config := {decide := true}) only [Dv.get, Dv.xV, Dv.xC, Dv.frz, Dv.frzs, Dv.flat, Dv.flats, Dv.clean, Dv.cleans, Dv.frzSlot, Dv.frz1, Dv.frzAt, Dv.put, Dv.addD, Dv.subD, Dv.mulD, Dv.fdivD, Dv.modD, Dv.negD, Dv.x2, Dv.x1, Dv.xsN, Dv.xsC, Dv.xTup, Dv.xLst, Dv.xCall, Dv.asB, Dv.tOf, Dv.tNot, Dv.tAnd, Dv.tOr, Dv.xB, Dv.xIf, Dv.cmpI, Dv.ltD, Dv.leD, Dv.gtD, Dv.geD, Dv.xAnd, Dv.xOr, Dv.xNot, Dv.sN, Dv.sSeq, Dv.sSet, Dv.sRet, Dv.sRetV, Dv.sIf, Dv.sBk, Dv.sCt, Dv.gN, Dv.gsN, Dv.gsC, Dv.gT, Dv.fnD, Dv.ixD, Dv.slD, Dv.pN, Dv.pI, Dv.xSl, Dv.lenD', Dv.intD, Dv.maxD, Dv.minD, Dv.allD, Dv.anyD, Dv.allB, Dv.listD, Dv.xF, Dv.isiD, Dv.eqD, Dv.neD, Dv.isND, Dv.notND, Dv.isN2, Dv.notN2, Dv.sApp, Dv.itL, Dv.itR1, Dv.itR2, Dv.rngL, Dv.zipL, Dv.zipO, Dv.itZ, Dv.enuL, Dv.enuO, Dv.itEn, Dv.wipeD, Dv.keepD, Dv.tY, Dv.sAsg, Dv.sPar, Dv.sPar3, Dv.sAugI, Dv.sDrop, Dv.at_20, Dv.at_21, Dv.at_30, Dv.at_31, Dv.at_32, Dv.at_40, Dv.at_41, Dv.at_42, Dv.at_43, Dv.at_10, Dv.frzs_ints, Dv.cleans_ints, Dv.le_sLine, Dv.sh_non, Dv.sh_bl, Dv.sh_int, Dv.sh_tup, Dv.sh_lst, Dv.eqo_int, Dv.eqo_bl, Dv.eqo_tup, Dv.eqo_lst, Dv.eqos_nil, Dv.eqos_cons, List.all_cons, List.all_nil, Dv.beq_tt, Dv.beq_ff, Dv.beq_tf, Dv.beq_ft, List.getElem?_cons_zero, List.getElem?_cons_succ, List.getElem?_nil, List.set_cons_zero, List.set_cons_succ, List.set_nil, Option.bind_some, Option.bind_none, Option.map_some, Option.map_none, if_true, if_false, ↓reduceIte, decide_true, decide_false, Bool.false_eq_true, Bool.true_and, Bool.and_true, Bool.false_and, Bool.and_false, Bool.not_true, Bool.not_false, Bool.true_or, Bool.or_true, Bool.false_or, Bool.or_false, List.cons_append, List.nil_append, List.length_cons, List.length_nil, List.map_cons, List.map_nil, List.replicate_succ, List.replicate_zero, Nat.reduceAdd, Nat.reduceSub, Nat.reduceLT, Nat.reduceEqDiff, Nat.reduceLeDiff, Int.reduceAdd, Int.reduceSub, Int.reduceMul, Int.reduceNeg, Int.reduceLT, Int.reduceLE, Int.reduceEq, Int.reduceMod, Int.reduceDiv, Int.reduceToNat, Nat.add_zero, Nat.zero_add, List.contains_cons, List.contains_nil, Nat.reduceBEq, beq_self_eq_true, reduceCtorEq, and_true, true_and, and_false, false_and, not_true_eq_false, not_false_eq_true, Dv.mulOk_sz, hx]
    · simp (config := {decide := true}) only [Dv.get, Dv.xV, Dv.xC, Dv.frz, Dv.frzs, Dv.flat, Dv.flats, Dv.clean, Dv.cleans, Dv.frzSlot, Dv.frz1, Dv.frzAt, Dv.put, Dv.addD, Dv.subD, Dv.mulD, Dv.fdivD, Dv.modD, Dv.negD, Dv.x2, Dv.x1, Dv.xsN, Dv.xsC, Dv.xTup, Dv.xLst, Dv.xCall, Dv.asB, Dv.tOf, Dv.tNot, Dv.tAnd, Dv.tOr, Dv.xB, Dv.xIf, Dv.cmpI, Dv.ltD, Dv.leD, Dv.gtD, Dv.geD, Dv.xAnd, Dv.xOr, Dv.xNot, Dv.sN, Dv.sSeq, Dv.sSet, Dv.sRet, Dv.sRetV, Dv.sIf, Dv.sBk, Dv.sCt, Dv.gN, Dv.gsN, Dv.gsC, Dv.gT, Dv.fnD, Dv.ixD, Dv.slD, Dv.pN, Dv.pI, Dv.xSl, Dv.lenD', Dv.intD, Dv.maxD, Dv.minD, Dv.allD, Dv.anyD, Dv.allB, Dv.listD, Dv.xF, Dv.isiD, Dv.eqD, Dv.neD, Dv.isND, Dv.notND, Dv.isN2, Dv.notN2, Dv.sApp, Dv.itL, Dv.itR1, Dv.itR2, Dv.rngL, Dv.zipL, Dv.zipO, Dv.itZ, Dv.enuL, Dv.enuO, Dv.itEn, Dv.wipeD, Dv.keepD, Dv.tY, Dv.sAsg, Dv.sPar, Dv.sPar3, Dv.sAugI, Dv.sDrop, Dv.at_20, Dv.at_21, Dv.at_30, Dv.at_31, Dv.at_32, Dv.at_40, Dv.at_41, Dv.at_42, Dv.at_43, Dv.at_10, Dv.frzs_ints, Dv.cleans_ints, Dv.le_sLine, Dv.sh_non, Dv.sh_bl, Dv.sh_int, Dv.sh_tup, Dv.sh_lst, Dv.eqo_int, Dv.eqo_bl, Dv.eqo_tup, Dv.eqo_lst, Dv.eqos_nil, Dv.eqos_cons, List.all_cons, List.all_nil, Dv.beq_tt, Dv.beq_ff, Dv.beq_tf, Dv.beq_ft, List.getElem?_cons_zero, List.getElem?_cons_succ, List.getElem?_nil, List.set_cons_zero, List.set_cons_succ, List.set_nil, Option.bind_some, Option.bind_none, Option.map_some, Option.map_none, if_true, if_false, ↓reduceIte, decide_true, decide_false, Bool.false_eq_true, Bool.true_and, Bool.and_true, Bool.false_and, Bool.and_false, Bool.not_true, Bool.not_false, Bool.true_or, Bool.or_true, Bool.false_or, Bool.or_false, List.cons_append, List.nil_append, List.length_cons, List.length_nil, List.map_cons, List.map_nil, List.replicate_succ, List.replicate_zero, Nat.reduceAdd, Nat.reduceSub, Nat.reduceLT, Nat.reduceEqDiff, Nat.reduceLeDiff, Int.reduceAdd, Int.reduceSub, Int.reduceMul, Int.reduceNeg, Int.reduceLT, Int.reduceLE, Int.reduceEq, Int.reduceMod, Int.reduceDiv, Int.reduceToNat, Nat.add_zero, Nat.zero_add, List.contains_cons, List.contains_nil, Nat.reduceBEq, beq_self_eq_true, reduceCtorEq, and_true, true_and, and_false, false_and, not_true_eq_false, not_false_eq_true, Dv.mulOk_sz]
end Sm
end
section
set_option Elab.async false
set_option linter.all false
set_option maxRecDepth 100000
namespace Sm
open Dv
theorem turned_eq {p q x y : Int} (r z : List O) {a b c d : Nat} [Sz a p] [Sz b q] [Sz c x] [Sz d y] (h1 : mulOk p y = true) (h2 : mulOk q x = true) (hr : frzs r = r) (hz : frzs z = z) : f__law_turned [.tup (.int p :: .int q :: r), .tup (.int x :: .int y :: z)] = some (.int (p * y - q * x)) := by
  have t0 : ∀ (u v : O) (r : List O), at? (u :: v :: r) 0 = some u := fun _ _ _ => rfl
  have t1 : ∀ (u v : O) (r : List O), at? (u :: v :: r) 1 = some v := fun u v r => rfl
  unfold f__law_turned s__law_turned
  simp (config := {decide := true}) only [Dv.get, Dv.xV, Dv.xC, Dv.frz, Dv.frzs, Dv.flat, Dv.flats, Dv.clean, Dv.cleans, Dv.frzSlot, Dv.frz1, Dv.frzAt, Dv.put, Dv.addD, Dv.subD, Dv.mulD, Dv.fdivD, Dv.modD, Dv.negD, Dv.x2, Dv.x1, Dv.xsN, Dv.xsC, Dv.xTup, Dv.xLst, Dv.xCall, Dv.asB, Dv.tOf, Dv.tNot, Dv.tAnd, Dv.tOr, Dv.xB, Dv.xIf, Dv.cmpI, Dv.ltD, Dv.leD, Dv.gtD, Dv.geD, Dv.xAnd, Dv.xOr, Dv.xNot, Dv.sN, Dv.sSeq, Dv.sSet, Dv.sRet, Dv.sRetV, Dv.sIf, Dv.sBk, Dv.sCt, Dv.gN, Dv.gsN, Dv.gsC, Dv.gT, Dv.fnD, Dv.ixD, Dv.slD, Dv.pN, Dv.pI, Dv.xSl, Dv.lenD', Dv.intD, Dv.maxD, Dv.minD, Dv.allD, Dv.anyD, Dv.allB, Dv.listD, Dv.xF, Dv.isiD, Dv.eqD, Dv.neD, Dv.isND, Dv.notND, Dv.isN2, Dv.notN2, Dv.sApp, Dv.itL, Dv.itR1, Dv.itR2, Dv.rngL, Dv.zipL, Dv.zipO, Dv.itZ, Dv.enuL, Dv.enuO, Dv.itEn, Dv.wipeD, Dv.keepD, Dv.tY, Dv.sAsg, Dv.sPar, Dv.sPar3, Dv.sAugI, Dv.sDrop, Dv.at_20, Dv.at_21, Dv.at_30, Dv.at_31, Dv.at_32, Dv.at_40, Dv.at_41, Dv.at_42, Dv.at_43, Dv.at_10, Dv.frzs_ints, Dv.cleans_ints, Dv.le_sLine, Dv.sh_non, Dv.sh_bl, Dv.sh_int, Dv.sh_tup, Dv.sh_lst, Dv.eqo_int, Dv.eqo_bl, Dv.eqo_tup, Dv.eqo_lst, Dv.eqos_nil, Dv.eqos_cons, List.all_cons, List.all_nil, Dv.beq_tt, Dv.beq_ff, Dv.beq_tf, Dv.beq_ft, List.getElem?_cons_zero, List.getElem?_cons_succ, List.getElem?_nil, List.set_cons_zero, List.set_cons_succ, List.set_nil, Option.bind_some, Option.bind_none, Option.map_some, Option.map_none, if_true, if_false, ↓reduceIte, decide_true, decide_false, Bool.false_eq_true, Bool.true_and, Bool.and_true, Bool.false_and, Bool.and_false, Bool.not_true, Bool.not_false, Bool.true_or, Bool.or_true, Bool.false_or, Bool.or_false, List.cons_append, List.nil_append, List.length_cons, List.length_nil, List.map_cons, List.map_nil, List.replicate_succ, List.replicate_zero, Nat.reduceAdd, Nat.reduceSub, Nat.reduceLT, Nat.reduceEqDiff, Nat.reduceLeDiff, Int.reduceAdd, Int.reduceSub, Int.reduceMul, Int.reduceNeg, Int.reduceLT, Int.reduceLE, Int.reduceEq, Int.reduceMod, Int.reduceDiv, Int.reduceToNat, Nat.add_zero, Nat.zero_add, List.contains_cons, List.contains_nil, Nat.reduceBEq, beq_self_eq_true, reduceCtorEq, and_true, true_and, and_false, false_and, not_true_eq_false, not_false_eq_true, Dv.mulOk_sz, h1, h2, hr, hz, t0, t1]
end Sm
end
section
set_option Elab.async false
set_option linter.all false
set_option maxRecDepth 100000
/-! a pair of directions, the second to the left -/
namespace Sm
open Dv
theorem sqp {x y : Int} (h : x ≠ 0 ∨ y ≠ 0) : 0 < x * x + y * y := by
  have h1 : 0 ≤ x * x := by
    by_cases c : 0 ≤ x
    · exact Int.mul_nonneg c c
    · exact Int.mul_nonneg_of_nonpos_of_nonpos (by omega) (by omega)
  have h2 : 0 ≤ y * y := by
    by_cases c : 0 ≤ y
    · exact Int.mul_nonneg c c
    · exact Int.mul_nonneg_of_nonpos_of_nonpos (by omega) (by omega)
  have h3 : x ≠ 0 → x * x ≠ 0 := fun h => Int.mul_ne_zero h h
  have h4 : y ≠ 0 → y * y ≠ 0 := fun h => Int.mul_ne_zero h h
  rcases h with h | h
  · have := h3 h; omega
  · have := h4 h; omega
theorem left_pair_eq (o : Bool) (L : List Int) (hC : Cells 5 L) (w : Int) (w0 : 1 ≤ w) (w1 : w ≤ 1000000) : ∃ x y p q : Int, f__law_left_pair [.lst o (L.map O.int), .int w] = some (.tup [.tup [.int x, .int y], .tup [.int p, .int q]]) ∧
    (x ≠ 0 ∨ y ≠ 0) ∧ (p ≠ 0 ∨ q ≠ 0) ∧ (-w ≤ x ∧ x ≤ w) ∧ (-w ≤ y ∧ y ≤ w) ∧ (-w ≤ p ∧ p ≤ w) ∧ (-w ≤ q ∧ q ≤ w) ∧ 0 < x * q - y * p := by
  obtain ⟨a0, i0, _, l0, u0⟩ := hC.at 0 (by decide) (by omega)
  obtain ⟨a1, i1, _, l1, u1⟩ := hC.at 1 (by decide) (by omega)
  obtain ⟨a2, i2, _, l2, u2⟩ := hC.at 2 (by decide) (by omega)
  obtain ⟨a3, i3, _, l3, u3⟩ := hC.at 3 (by decide) (by omega)
  obtain ⟨a4, i4, _, l4, u4⟩ := hC.at 4 (by decide) (by omega)
  obtain ⟨x, y, e1, n1, bx, by_⟩ := way_eq a0 a1 w w0 w1
  obtain ⟨p, q, e2, n2, bp, bq⟩ := way_eq a2 a3 w w0 w1
  have d4 : divOk 4 = true := by decide
  obtain ⟨Ls, hLs⟩ : ∃ Ls, L.map O.int = Ls := ⟨_, rfl⟩
  have fL : frzs Ls = Ls := by rw [← hLs]; exact frzs_ints L
  rw [hLs] at i0 i1 i2 i3 i4 ⊢
  have tn : ∀ {x y p q : Int}, (-w ≤ x ∧ x ≤ w) → (-w ≤ y ∧ y ≤ w) → (-w ≤ p ∧ p ≤ w) → (-w ≤ q ∧ q ≤ w) → f__law_turned [.tup [.int x, .int y], .tup [.int p, .int q]] = some (.int (x * q - y * p)) := fun {x y p q} h1 h2 h3 h4 => by
    haveI : Sz 1 x := sz1 (by omega) (by omega)
    haveI : Sz 1 y := sz1 (by omega) (by omega)
    haveI : Sz 1 p := sz1 (by omega) (by omega)
    haveI : Sz 1 q := sz1 (by omega) (by omega)
    exact turned_eq [] [] (mulOk_sz (a := 1) (b := 1) rfl) (mulOk_sz (a := 1) (b := 1) rfl) rfl rfl
  have mid : ∃ p' q' : Int, (p' ≠ 0 ∨ q' ≠ 0) ∧ (-w ≤ p' ∧ p' ≤ w) ∧ (-w ≤ q' ∧ q' ≤ w) ∧ sIf (tOf (x2 eqD (x2 modD (x2 ixD (xV 0) (xC (.int 4))) (xC (.int 4))) (xC (.int 1)))) (sSet [2, 2] 3 (xTup (xsC (x1 negD (x2 ixD (xV 2) (xC (.int 1)))) (xsC (x2 ixD (xV 2) (xC (.int 0))) (xsN))))) (sN)
      [some (.lst false Ls), some (.int w), some (.tup [.int x, .int y]), some (.tup [.int p, .int q])] = some (.nx [some (.lst false Ls), some (.int w), some (.tup [.int x, .int y]), some (.tup [.int p', .int q'])]) := by
    by_cases h : a4 % 4 = 1
    · exact ⟨-y, x, by omega, by omega, by omega, by simp (config := {decide := true}) only [Dv.get, Dv.xV, Dv.xC, Dv.frz, Dv.frzs, Dv.flat, Dv.flats, Dv.clean, Dv.cleans, Dv.frzSlot, Dv.frz1, Dv.frzAt, Dv.put, Dv.addD, Dv.subD, Dv.mulD, Dv.fdivD, Dv.modD, Dv.negD, Dv.x2, Dv.x1, Dv.xsN, Dv.xsC, Dv.xTup, Dv.xLst, Dv.xCall, Dv.asB, Dv.tOf, Dv.tNot, Dv.tAnd, Dv.tOr, Dv.xB, Dv.xIf, Dv.cmpI, Dv.ltD, Dv.leD, Dv.gtD, Dv.geD, Dv.xAnd, Dv.xOr, Dv.xNot, Dv.sN, Dv.sSeq, Dv.sSet, Dv.sRet, Dv.sRetV, Dv.sIf, Dv.sBk, Dv.sCt, Dv.gN, Dv.gsN, Dv.gsC, Dv.gT, Dv.fnD, Dv.ixD, Dv.slD, Dv.pN, Dv.pI, Dv.xSl, Dv.lenD', Dv.intD, Dv.maxD, Dv.minD, Dv.allD, Dv.anyD, Dv.allB, Dv.listD, Dv.xF, Dv.isiD, Dv.eqD, Dv.neD, Dv.isND, Dv.notND, Dv.isN2, Dv.notN2, Dv.sApp, Dv.itL, Dv.itR1, Dv.itR2, Dv.rngL, Dv.zipL, Dv.zipO, Dv.itZ, Dv.enuL, Dv.enuO, Dv.itEn, Dv.wipeD, Dv.keepD, Dv.tY, Dv.sAsg, Dv.sPar, Dv.sPar3, Dv.sAugI, Dv.sDrop, Dv.at_20, Dv.at_21, Dv.at_30, Dv.at_31, Dv.at_32, Dv.at_40, Dv.at_41, Dv.at_42, Dv.at_43, Dv.at_10, Dv.frzs_ints, Dv.cleans_ints, Dv.le_sLine, Dv.sh_non, Dv.sh_bl, Dv.sh_int, Dv.sh_tup, Dv.sh_lst, Dv.eqo_int, Dv.eqo_bl, Dv.eqo_tup, Dv.eqo_lst, Dv.eqos_nil, Dv.eqos_cons, List.all_cons, List.all_nil, Dv.beq_tt, Dv.beq_ff, Dv.beq_tf, Dv.beq_ft, List.getElem?_cons_zero, List.getElem?_cons_succ, List.getElem?_nil, List.set_cons_zero, List.set_cons_succ, List.set_nil, Option.bind_some, Option.bind_none, Option.map_some, Option.map_none, if_true, if_false, ↓reduceIte, decide_true, decide_false, Bool.false_eq_true, Bool.true_and, Bool.and_true, Bool.false_and, Bool.and_false, Bool.not_true, Bool.not_false, Bool.true_or, Bool.or_true, Bool.false_or, Bool.or_false, List.cons_append, List.nil_append, List.length_cons, List.length_nil, List.map_cons, List.map_nil, List.replicate_succ, List.replicate_zero, Nat.reduceAdd, Nat.reduceSub, Nat.reduceLT, Nat.reduceEqDiff, Nat.reduceLeDiff, Int.reduceAdd, Int.reduceSub, Int.reduceMul, Int.reduceNeg, Int.reduceLT, Int.reduceLE, Int.reduceEq, Int.reduceMod, Int.reduceDiv, Int.reduceToNat, Nat.add_zero, Nat.zero_add, List.contains_cons, List.contains_nil, Nat.reduceBEq, beq_self_eq_true, reduceCtorEq, and_true, true_and, and_false, false_and, not_true_eq_false, not_false_eq_true, Dv.mulOk_sz, fL, i4, d4, h] <;> rfl⟩
    · exact ⟨p, q, n2, bp, bq, by simp (config := {decide := true}) only [Dv.get, Dv.xV, Dv.xC, Dv.frz, Dv.frzs, Dv.flat, Dv.flats, Dv.clean, Dv.cleans, Dv.frzSlot, Dv.frz1, Dv.frzAt, Dv.put, Dv.addD, Dv.subD, Dv.mulD, Dv.fdivD, Dv.modD, Dv.negD, Dv.x2, Dv.x1, Dv.xsN, Dv.xsC, Dv.xTup, Dv.xLst, Dv.xCall, Dv.asB, Dv.tOf, Dv.tNot, Dv.tAnd, Dv.tOr, Dv.xB, Dv.xIf, Dv.cmpI, Dv.ltD, Dv.leD, Dv.gtD, Dv.geD, Dv.xAnd, Dv.xOr, Dv.xNot, Dv.sN, Dv.sSeq, Dv.sSet, Dv.sRet, Dv.sRetV, Dv.sIf, Dv.sBk, Dv.sCt, Dv.gN, Dv.gsN, Dv.gsC, Dv.gT, Dv.fnD, Dv.ixD, Dv.slD, Dv.pN, Dv.pI, Dv.xSl, Dv.lenD', Dv.intD, Dv.maxD, Dv.minD, Dv.allD, Dv.anyD, Dv.allB, Dv.listD, Dv.xF, Dv.isiD, Dv.eqD, Dv.neD, Dv.isND, Dv.notND, Dv.isN2, Dv.notN2, Dv.sApp, Dv.itL, Dv.itR1, Dv.itR2, Dv.rngL, Dv.zipL, Dv.zipO, Dv.itZ, Dv.enuL, Dv.enuO, Dv.itEn, Dv.wipeD, Dv.keepD, Dv.tY, Dv.sAsg, Dv.sPar, Dv.sPar3, Dv.sAugI, Dv.sDrop, Dv.at_20, Dv.at_21, Dv.at_30, Dv.at_31, Dv.at_32, Dv.at_40, Dv.at_41, Dv.at_42, Dv.at_43, Dv.at_10, Dv.frzs_ints, Dv.cleans_ints, Dv.le_sLine, Dv.sh_non, Dv.sh_bl, Dv.sh_int, Dv.sh_tup, Dv.sh_lst, Dv.eqo_int, Dv.eqo_bl, Dv.eqo_tup, Dv.eqo_lst, Dv.eqos_nil, Dv.eqos_cons, List.all_cons, List.all_nil, Dv.beq_tt, Dv.beq_ff, Dv.beq_tf, Dv.beq_ft, List.getElem?_cons_zero, List.getElem?_cons_succ, List.getElem?_nil, List.set_cons_zero, List.set_cons_succ, List.set_nil, Option.bind_some, Option.bind_none, Option.map_some, Option.map_none, if_true, if_false, ↓reduceIte, decide_true, decide_false, Bool.false_eq_true, Bool.true_and, Bool.and_true, Bool.false_and, Bool.and_false, Bool.not_true, Bool.not_false, Bool.true_or, Bool.or_true, Bool.false_or, Bool.or_false, List.cons_append, List.nil_append, List.length_cons, List.length_nil, List.map_cons, List.map_nil, List.replicate_succ, List.replicate_zero, Nat.reduceAdd, Nat.reduceSub, Nat.reduceLT, Nat.reduceEqDiff, Nat.reduceLeDiff, Int.reduceAdd, Int.reduceSub, Int.reduceMul, Int.reduceNeg, Int.reduceLT, Int.reduceLE, Int.reduceEq, Int.reduceMod, Int.reduceDiv, Int.reduceToNat, Nat.add_zero, Nat.zero_add, List.contains_cons, List.contains_nil, Nat.reduceBEq, beq_self_eq_true, reduceCtorEq, and_true, true_and, and_false, false_and, not_true_eq_false, not_false_eq_true, Dv.mulOk_sz, fL, i4, d4, h] <;> rfl⟩
  obtain ⟨p', q', n2', bp', bq', em⟩ := mid
  have hd : ∀ (r : O), ((sSeq (sIf (tOf (x2 ltD (xCall f__law_turned (xsC (xV 2) (xsC (xV 3) (xsN)))) (xC (.int 0)))) (sPar [3, 2] 2 3 (xsC (xV 3) (xsC (xV 2) (xsN)))) (sN))
      (sSeq (sIf (tOf (x2 eqD (xCall f__law_turned (xsC (xV 2) (xsC (xV 3) (xsN)))) (xC (.int 0)))) (sSet [2, 2] 3 (xTup (xsC (x1 negD (x2 ixD (xV 2) (xC (.int 1)))) (xsC (x2 ixD (xV 2) (xC (.int 0))) (xsN))))) (sN))
      (sRet (xTup (xsC (xV 2) (xsC (xV 3) (xsN))))))) [some (.lst false Ls), some (.int w), some (.tup [.int x, .int y]), some (.tup [.int p', .int q'])]) = some (.rt r) → f__law_left_pair [.lst o Ls, .int w] = some r := by
    intro r h
    have st : s__law_left_pair [some (.lst false Ls), some (.int w), none, none] = (sSeq (sIf (tOf (x2 ltD (xCall f__law_turned (xsC (xV 2) (xsC (xV 3) (xsN)))) (xC (.int 0)))) (sPar [3, 2] 2 3 (xsC (xV 3) (xsC (xV 2) (xsN)))) (sN))
        (sSeq (sIf (tOf (x2 eqD (xCall f__law_turned (xsC (xV 2) (xsC (xV 3) (xsN)))) (xC (.int 0)))) (sSet [2, 2] 3 (xTup (xsC (x1 negD (x2 ixD (xV 2) (xC (.int 1)))) (xsC (x2 ixD (xV 2) (xC (.int 0))) (xsN))))) (sN))
        (sRet (xTup (xsC (xV 2) (xsC (xV 3) (xsN))))))) [some (.lst false Ls), some (.int w), some (.tup [.int x, .int y]), some (.tup [.int p', .int q'])] := by
      unfold s__law_left_pair
      refine seq_nx (τ' := [some (.lst false Ls), some (.int w), some (.tup [.int x, .int y]), none]) (by simp (config := {decide := true}) only [Dv.get, Dv.xV, Dv.xC, Dv.frz, Dv.frzs, Dv.flat, Dv.flats, Dv.clean, Dv.cleans, Dv.frzSlot, Dv.frz1, Dv.frzAt, Dv.put, Dv.addD, Dv.subD, Dv.mulD, Dv.fdivD, Dv.modD, Dv.negD, Dv.x2, Dv.x1, Dv.xsN, Dv.xsC, Dv.xTup, Dv.xLst, Dv.xCall, Dv.asB, Dv.tOf, Dv.tNot, Dv.tAnd, Dv.tOr, Dv.xB, Dv.xIf, Dv.cmpI, Dv.ltD, Dv.leD, Dv.gtD, Dv.geD, Dv.xAnd, Dv.xOr, Dv.xNot, Dv.sN, Dv.sSeq, Dv.sSet, Dv.sRet, Dv.sRetV, Dv.sIf, Dv.sBk, Dv.sCt, Dv.gN, Dv.gsN, Dv.gsC, Dv.gT, Dv.fnD, Dv.ixD, Dv.slD, Dv.pN, Dv.pI, Dv.xSl, Dv.lenD', Dv.intD, Dv.maxD, Dv.minD, Dv.allD, Dv.anyD, Dv.allB, Dv.listD, Dv.xF, Dv.isiD, Dv.eqD, Dv.neD, Dv.isND, Dv.notND, Dv.isN2, Dv.notN2, Dv.sApp, Dv.itL, Dv.itR1, Dv.itR2, Dv.rngL, Dv.zipL, Dv.zipO, Dv.itZ, Dv.enuL, Dv.enuO, Dv.itEn, Dv.wipeD, Dv.keepD, Dv.tY, Dv.sAsg, Dv.sPar, Dv.sPar3, Dv.sAugI, Dv.sDrop, Dv.at_20, Dv.at_21, Dv.at_30, Dv.at_31, Dv.at_32, Dv.at_40, Dv.at_41, Dv.at_42, Dv.at_43, Dv.at_10, Dv.frzs_ints, Dv.cleans_ints, Dv.le_sLine, Dv.sh_non, Dv.sh_bl, Dv.sh_int, Dv.sh_tup, Dv.sh_lst, Dv.eqo_int, Dv.eqo_bl, Dv.eqo_tup, Dv.eqo_lst, Dv.eqos_nil, Dv.eqos_cons, List.all_cons, List.all_nil, Dv.beq_tt, Dv.beq_ff, Dv.beq_tf, Dv.beq_ft, List.getElem?_cons_zero, List.getElem?_cons_succ, List.getElem?_nil, List.set_cons_zero, List.set_cons_succ, List.set_nil, Option.bind_some, Option.bind_none, Option.map_some, Option.map_none, if_true, if_false, ↓reduceIte, decide_true, decide_false, Bool.false_eq_true, Bool.true_and, Bool.and_true, Bool.false_and, Bool.and_false, Bool.not_true, Bool.not_false, Bool.true_or, Bool.or_true, Bool.false_or, Bool.or_false, List.cons_append, List.nil_append, List.length_cons, List.length_nil, List.map_cons, List.map_nil, List.replicate_succ, List.replicate_zero, Nat.reduceAdd, Nat.reduceSub, Nat.reduceLT, Nat.reduceEqDiff, Nat.reduceLeDiff, Int.reduceAdd, Int.reduceSub, Int.reduceMul, Int.reduceNeg, Int.reduceLT, Int.reduceLE, Int.reduceEq, Int.reduceMod, Int.reduceDiv, Int.reduceToNat, Nat.add_zero, Nat.zero_add, List.contains_cons, List.contains_nil, Nat.reduceBEq, beq_self_eq_true, reduceCtorEq, and_true, true_and, and_false, false_and, not_true_eq_false, not_false_eq_true, Dv.mulOk_sz, fL, i0, i1, e1]) ?_
      refine seq_nx (τ' := [some (.lst false Ls), some (.int w), some (.tup [.int x, .int y]), some (.tup [.int p, .int q])]) (by simp (config := {decide := true}) only [Dv.get, Dv.xV, Dv.xC, Dv.frz, Dv.frzs, Dv.flat, Dv.flats, Dv.clean, Dv.cleans, Dv.frzSlot, Dv.frz1, Dv.frzAt, Dv.put, Dv.addD, Dv.subD, Dv.mulD, Dv.fdivD, Dv.modD, Dv.negD, Dv.x2, Dv.x1, Dv.xsN, Dv.xsC, Dv.xTup, Dv.xLst, Dv.xCall, Dv.asB, Dv.tOf, Dv.tNot, Dv.tAnd, Dv.tOr, Dv.xB, Dv.xIf, Dv.cmpI, Dv.ltD, Dv.leD, Dv.gtD, Dv.geD, Dv.xAnd, Dv.xOr, Dv.xNot, Dv.sN, Dv.sSeq, Dv.sSet, Dv.sRet, Dv.sRetV, Dv.sIf, Dv.sBk, Dv.sCt, Dv.gN, Dv.gsN, Dv.gsC, Dv.gT, Dv.fnD, Dv.ixD, Dv.slD, Dv.pN, Dv.pI, Dv.xSl, Dv.lenD', Dv.intD, Dv.maxD, Dv.minD, Dv.allD, Dv.anyD, Dv.allB, Dv.listD, Dv.xF, Dv.isiD, Dv.eqD, Dv.neD, Dv.isND, Dv.notND, Dv.isN2, Dv.notN2, Dv.sApp, Dv.itL, Dv.itR1, Dv.itR2, Dv.rngL, Dv.zipL, Dv.zipO, Dv.itZ, Dv.enuL, Dv.enuO, Dv.itEn, Dv.wipeD, Dv.keepD, Dv.tY, Dv.sAsg, Dv.sPar, Dv.sPar3, Dv.sAugI, Dv.sDrop, Dv.at_20, Dv.at_21, Dv.at_30, Dv.at_31, Dv.at_32, Dv.at_40, Dv.at_41, Dv.at_42, Dv.at_43, Dv.at_10, Dv.frzs_ints, Dv.cleans_ints, Dv.le_sLine, Dv.sh_non, Dv.sh_bl, Dv.sh_int, Dv.sh_tup, Dv.sh_lst, Dv.eqo_int, Dv.eqo_bl, Dv.eqo_tup, Dv.eqo_lst, Dv.eqos_nil, Dv.eqos_cons, List.all_cons, List.all_nil, Dv.beq_tt, Dv.beq_ff, Dv.beq_tf, Dv.beq_ft, List.getElem?_cons_zero, List.getElem?_cons_succ, List.getElem?_nil, List.set_cons_zero, List.set_cons_succ, List.set_nil, Option.bind_some, Option.bind_none, Option.map_some, Option.map_none, if_true, if_false, ↓reduceIte, decide_true, decide_false, Bool.false_eq_true, Bool.true_and, Bool.and_true, Bool.false_and, Bool.and_false, Bool.not_true, Bool.not_false, Bool.true_or, Bool.or_true, Bool.false_or, Bool.or_false, List.cons_append, List.nil_append, List.length_cons, List.length_nil, List.map_cons, List.map_nil, List.replicate_succ, List.replicate_zero, Nat.reduceAdd, Nat.reduceSub, Nat.reduceLT, Nat.reduceEqDiff, Nat.reduceLeDiff, Int.reduceAdd, Int.reduceSub, Int.reduceMul, Int.reduceNeg, Int.reduceLT, Int.reduceLE, Int.reduceEq, Int.reduceMod, Int.reduceDiv, Int.reduceToNat, Nat.add_zero, Nat.zero_add, List.contains_cons, List.contains_nil, Nat.reduceBEq, beq_self_eq_true, reduceCtorEq, and_true, true_and, and_false, false_and, not_true_eq_false, not_false_eq_true, Dv.mulOk_sz, fL, i2, i3, e2]) ?_
      exact seq_nx em rfl
    unfold f__law_left_pair
    exact fnD_of (τ := [some (.lst false Ls), some (.int w), none, none]) rfl (by show [some (O.lst false (frzs Ls)), _, _, _] = _; rw [fL]; rfl) (st.trans h)
  have t1 := tn bx by_ bp' bq'
  by_cases c : x * q' - y * p' < 0
  · have t2 := tn bp' bq' bx by_
    have c2 : (p' * y - q' * x = 0) = False := eq_false (by
      have e1 : p' * y = y * p' := Int.mul_comm ..
      have e2 : q' * x = x * q' := Int.mul_comm ..
      omega)
    refine ⟨p', q', x, y, hd _ ?_, n2', n1, bp', bq', bx, by_, by
      have e1 : p' * y = y * p' := Int.mul_comm ..
      have e2 : q' * x = x * q' := Int.mul_comm ..
      omega⟩
    simp (config := {decide := true}) only [Dv.get, Dv.xV, Dv.xC, Dv.frz, Dv.frzs, Dv.flat, Dv.flats, Dv.clean, Dv.cleans, Dv.frzSlot, Dv.frz1, Dv.frzAt, Dv.put, Dv.addD, Dv.subD, Dv.mulD, Dv.fdivD, Dv.modD, Dv.negD, Dv.x2, Dv.x1, Dv.xsN, Dv.xsC, Dv.xTup, Dv.xLst, Dv.xCall, Dv.asB, Dv.tOf, Dv.tNot, Dv.tAnd, Dv.tOr, Dv.xB, Dv.xIf, Dv.cmpI, Dv.ltD, Dv.leD, Dv.gtD, Dv.geD, Dv.xAnd, Dv.xOr, Dv.xNot, Dv.sN, Dv.sSeq, Dv.sSet, Dv.sRet, Dv.sRetV, Dv.sIf, Dv.sBk, Dv.sCt, Dv.gN, Dv.gsN, Dv.gsC, Dv.gT, Dv.fnD, Dv.ixD, Dv.slD, Dv.pN, Dv.pI, Dv.xSl, Dv.lenD', Dv.intD, Dv.maxD, Dv.minD, Dv.allD, Dv.anyD, Dv.allB, Dv.listD, Dv.xF, Dv.isiD, Dv.eqD, Dv.neD, Dv.isND, Dv.notND, Dv.isN2, Dv.notN2, Dv.sApp, Dv.itL, Dv.itR1, Dv.itR2, Dv.rngL, Dv.zipL, Dv.zipO, Dv.itZ, Dv.enuL, Dv.enuO, Dv.itEn, Dv.wipeD, Dv.keepD, Dv.tY, Dv.sAsg, Dv.sPar, Dv.sPar3, Dv.sAugI, Dv.sDrop, Dv.at_20, Dv.at_21, Dv.at_30, Dv.at_31, Dv.at_32, Dv.at_40, Dv.at_41, Dv.at_42, Dv.at_43, Dv.at_10, Dv.frzs_ints, Dv.cleans_ints, Dv.le_sLine, Dv.sh_non, Dv.sh_bl, Dv.sh_int, Dv.sh_tup, Dv.sh_lst, Dv.eqo_int, Dv.eqo_bl, Dv.eqo_tup, Dv.eqo_lst, Dv.eqos_nil, Dv.eqos_cons, List.all_cons, List.all_nil, Dv.beq_tt, Dv.beq_ff, Dv.beq_tf, Dv.beq_ft, List.getElem?_cons_zero, List.getElem?_cons_succ, List.getElem?_nil, List.set_cons_zero, List.set_cons_succ, List.set_nil, Option.bind_some, Option.bind_none, Option.map_some, Option.map_none, if_true, if_false, ↓reduceIte, decide_true, decide_false, Bool.false_eq_true, Bool.true_and, Bool.and_true, Bool.false_and, Bool.and_false, Bool.not_true, Bool.not_false, Bool.true_or, Bool.or_true, Bool.false_or, Bool.or_false, List.cons_append, List.nil_append, List.length_cons, List.length_nil, List.map_cons, List.map_nil, List.replicate_succ, List.replicate_zero, Nat.reduceAdd, Nat.reduceSub, Nat.reduceLT, Nat.reduceEqDiff, Nat.reduceLeDiff, Int.reduceAdd, Int.reduceSub, Int.reduceMul, Int.reduceNeg, Int.reduceLT, Int.reduceLE, Int.reduceEq, Int.reduceMod, Int.reduceDiv, Int.reduceToNat, Nat.add_zero, Nat.zero_add, List.contains_cons, List.contains_nil, Nat.reduceBEq, beq_self_eq_true, reduceCtorEq, and_true, true_and, and_false, false_and, not_true_eq_false, not_false_eq_true, Dv.mulOk_sz, t1, t2, c, c2]
  · by_cases c0 : x * q' - y * p' = 0
    · refine ⟨x, y, -y, x, hd _ ?_, n1, by omega, bx, by_, by omega, by omega, by
        have := sqp n1
        have e : y * -y = -(y * y) := by grind
        omega⟩
      have c' : (x * q' - y * p' < 0) = False := eq_false c
      simp (config := {decide := true}) only [Dv.get, Dv.xV, Dv.xC, Dv.frz, Dv.frzs, Dv.flat, Dv.flats, Dv.clean, Dv.cleans, Dv.frzSlot, Dv.frz1, Dv.frzAt, Dv.put, Dv.addD, Dv.subD, Dv.mulD, Dv.fdivD, Dv.modD, Dv.negD, Dv.x2, Dv.x1, Dv.xsN, Dv.xsC, Dv.xTup, Dv.xLst, Dv.xCall, Dv.asB, Dv.tOf, Dv.tNot, Dv.tAnd, Dv.tOr, Dv.xB, Dv.xIf, Dv.cmpI, Dv.ltD, Dv.leD, Dv.gtD, Dv.geD, Dv.xAnd, Dv.xOr, Dv.xNot, Dv.sN, Dv.sSeq, Dv.sSet, Dv.sRet, Dv.sRetV, Dv.sIf, Dv.sBk, Dv.sCt, Dv.gN, Dv.gsN, Dv.gsC, Dv.gT, Dv.fnD, Dv.ixD, Dv.slD, Dv.pN, Dv.pI, Dv.xSl, Dv.lenD', Dv.intD, Dv.maxD, Dv.minD, Dv.allD, Dv.anyD, Dv.allB, Dv.listD, Dv.xF, Dv.isiD, Dv.eqD, Dv.neD, Dv.isND, Dv.notND, Dv.isN2, Dv.notN2, Dv.sApp, Dv.itL, Dv.itR1, Dv.itR2, Dv.rngL, Dv.zipL, Dv.zipO, Dv.itZ, Dv.enuL, Dv.enuO, Dv.itEn, Dv.wipeD, Dv.keepD, Dv.tY, Dv.sAsg, Dv.sPar, Dv.sPar3, Dv.sAugI, Dv.sDrop, Dv.at_20, Dv.at_21, Dv.at_30, Dv.at_31, Dv.at_32, Dv.at_40, Dv.at_41, Dv.at_42, Dv.at_43, Dv.at_10, Dv.frzs_ints, Dv.cleans_ints, Dv.le_sLine, Dv.sh_non, Dv.sh_bl, Dv.sh_int, Dv.sh_tup, Dv.sh_lst, Dv.eqo_int, Dv.eqo_bl, Dv.eqo_tup, Dv.eqo_lst, Dv.eqos_nil, Dv.eqos_cons, List.all_cons, List.all_nil, Dv.beq_tt, Dv.beq_ff, Dv.beq_tf, Dv.beq_ft, List.getElem?_cons_zero, List.getElem?_cons_succ, List.getElem?_nil, List.set_cons_zero, List.set_cons_succ, List.set_nil, Option.bind_some, Option.bind_none, Option.map_some, Option.map_none, if_true, if_false, ↓reduceIte, decide_true, decide_false, Bool.false_eq_true, Bool.true_and, Bool.and_true, Bool.false_and, Bool.and_false, Bool.not_true, Bool.not_false, Bool.true_or, Bool.or_true, Bool.false_or, Bool.or_false, List.cons_append, List.nil_append, List.length_cons, List.length_nil, List.map_cons, List.map_nil, List.replicate_succ, List.replicate_zero, Nat.reduceAdd, Nat.reduceSub, Nat.reduceLT, Nat.reduceEqDiff, Nat.reduceLeDiff, Int.reduceAdd, Int.reduceSub, Int.reduceMul, Int.reduceNeg, Int.reduceLT, Int.reduceLE, Int.reduceEq, Int.reduceMod, Int.reduceDiv, Int.reduceToNat, Nat.add_zero, Nat.zero_add, List.contains_cons, List.contains_nil, Nat.reduceBEq, beq_self_eq_true, reduceCtorEq, and_true, true_and, and_false, false_and, not_true_eq_false, not_false_eq_true, Dv.mulOk_sz, t1, c0]
    · refine ⟨x, y, p', q', hd _ ?_, n1, n2', bx, by_, bp', bq', by omega⟩
      have c' : (x * q' - y * p' < 0) = False := eq_false c
      have c0' : (x * q' - y * p' = 0) = False := eq_false c0
      simp (config := {decide := true}) only [Dv.get, Dv.xV, Dv.xC, Dv.frz, Dv.frzs, Dv.flat, Dv.flats, Dv.clean, Dv.cleans, Dv.frzSlot, Dv.frz1, Dv.frzAt, Dv.put, Dv.addD, Dv.subD, Dv.mulD, Dv.fdivD, Dv.modD, Dv.negD, Dv.x2, Dv.x1, Dv.xsN, Dv.xsC, Dv.xTup, Dv.xLst, Dv.xCall, Dv.asB, Dv.tOf, Dv.tNot, Dv.tAnd, Dv.tOr, Dv.xB, Dv.xIf, Dv.cmpI, Dv.ltD, Dv.leD, Dv.gtD, Dv.geD, Dv.xAnd, Dv.xOr, Dv.xNot, Dv.sN, Dv.sSeq, Dv.sSet, Dv.sRet, Dv.sRetV, Dv.sIf, Dv.sBk, Dv.sCt, Dv.gN, Dv.gsN, Dv.gsC, Dv.gT, Dv.fnD, Dv.ixD, Dv.slD, Dv.pN, Dv.pI, Dv.xSl, Dv.lenD', Dv.intD, Dv.maxD, Dv.minD, Dv.allD, Dv.anyD, Dv.allB, Dv.listD, Dv.xF, Dv.isiD, Dv.eqD, Dv.neD, Dv.isND, Dv.notND, Dv.isN2, Dv.notN2, Dv.sApp, Dv.itL, Dv.itR1, Dv.itR2, Dv.rngL, Dv.zipL, Dv.zipO, Dv.itZ, Dv.enuL, Dv.enuO, Dv.itEn, Dv.wipeD, Dv.keepD, Dv.tY, Dv.sAsg, Dv.sPar, Dv.sPar3, Dv.sAugI, Dv.sDrop, Dv.at_20, Dv.at_21, Dv.at_30, Dv.at_31, Dv.at_32, Dv.at_40, Dv.at_41, Dv.at_42, Dv.at_43, Dv.at_10, Dv.frzs_ints, Dv.cleans_ints, Dv.le_sLine, Dv.sh_non, Dv.sh_bl, Dv.sh_int, Dv.sh_tup, Dv.sh_lst, Dv.eqo_int, Dv.eqo_bl, Dv.eqo_tup, Dv.eqo_lst, Dv.eqos_nil, Dv.eqos_cons, List.all_cons, List.all_nil, Dv.beq_tt, Dv.beq_ff, Dv.beq_tf, Dv.beq_ft, List.getElem?_cons_zero, List.getElem?_cons_succ, List.getElem?_nil, List.set_cons_zero, List.set_cons_succ, List.set_nil, Option.bind_some, Option.bind_none, Option.map_some, Option.map_none, if_true, if_false, ↓reduceIte, decide_true, decide_false, Bool.false_eq_true, Bool.true_and, Bool.and_true, Bool.false_and, Bool.and_false, Bool.not_true, Bool.not_false, Bool.true_or, Bool.or_true, Bool.false_or, Bool.or_false, List.cons_append, List.nil_append, List.length_cons, List.length_nil, List.map_cons, List.map_nil, List.replicate_succ, List.replicate_zero, Nat.reduceAdd, Nat.reduceSub, Nat.reduceLT, Nat.reduceEqDiff, Nat.reduceLeDiff, Int.reduceAdd, Int.reduceSub, Int.reduceMul, Int.reduceNeg, Int.reduceLT, Int.reduceLE, Int.reduceEq, Int.reduceMod, Int.reduceDiv, Int.reduceToNat, Nat.add_zero, Nat.zero_add, List.contains_cons, List.contains_nil, Nat.reduceBEq, beq_self_eq_true, reduceCtorEq, and_true, true_and, and_false, false_and, not_true_eq_false, not_false_eq_true, Dv.mulOk_sz, t1, c', c0']
end Sm
end
section
set_option Elab.async false
set_option linter.all false
set_option maxRecDepth 100000
namespace Sm
open Dv
theorem side_eq (L : List Int) (hC : Cells 5 L) (o : Bool) : ∃ a b c, f__law_side [.lst o (L.map O.int)] = some (.tup [.int a, .int b, .int c]) ∧ (a ≠ 0 ∨ b ≠ 0) ∧ Bd 2000000 a ∧ Bd 2000000 b ∧ Bd 1000000000 c := by
  obtain ⟨a0, i0, _, l0, u0⟩ := hC.at 0 (by decide) (by decide)
  obtain ⟨a1, i1, _, l1, u1⟩ := hC.at 1 (by decide) (by decide)
  obtain ⟨a2, i2, _, l2, u2⟩ := hC.at 2 (by decide) (by decide)
  obtain ⟨a3, i3, _, l3, u3⟩ := hC.at 3 (by decide) (by decide)
  obtain ⟨a4, i4, _, l4, u4⟩ := hC.at 4 (by decide) (by decide)
  have hw : ∃ w, at? [O.int 3, .int 3, .int 3, .int 100, .int 2000] (a4 % 5) = some (.int w) ∧ 1 ≤ w ∧ w ≤ 2000 := by
    have c : a4 % 5 = 0 ∨ a4 % 5 = 1 ∨ a4 % 5 = 2 ∨ a4 % 5 = 3 ∨ a4 % 5 = 4 := by omega
    rcases c with c | c | c | c | c <;> rw [c] <;> exact ⟨_, rfl, by decide, by decide⟩
  obtain ⟨w, hw, w1, w2⟩ := hw
  obtain ⟨x, y, hxy, nz, bx, by_⟩ := way_eq a0 a1 w w1 (by omega)
  haveI : Sz 1 x := sz1 (by omega) (by omega)
  haveI : Sz 1 y := sz1 (by omega) (by omega)
  have d9 : divOk 9 = true := by decide
  have d5 : divOk 5 = true := by decide
  obtain ⟨u, hu⟩ : ∃ u, a2 % 9 - 4 = u := ⟨_, rfl⟩
  obtain ⟨v, hv⟩ : ∃ v, a2 / 9 % 9 - 4 = v := ⟨_, rfl⟩
  haveI : Sz 1 u := sz1 (by omega) (by omega)
  haveI : Sz 1 v := sz1 (by omega) (by omega)
  have bxu : Bd (2000 * 4) (x * u) := Bd.mul (by unfold Bd; omega) (by unfold Bd; omega)
  have byv : Bd (2000 * 4) (y * v) := Bd.mul (by unfold Bd; omega) (by unfold Bd; omega)
  unfold Bd at bxu byv
  suffices h : ∃ a b c, s__law_side [some (.lst false (L.map O.int)), none, none, none] = some (.rt (.tup [.int a, .int b, .int c])) ∧ (a ≠ 0 ∨ b ≠ 0) ∧ Bd 2000000 a ∧ Bd 2000000 b ∧ Bd 1000000000 c by
    obtain ⟨a, b, c, h1, h2⟩ := h
    refine ⟨a, b, c, ?_, h2⟩
    unfold f__law_side
    refine fnD_of rfl ?_ h1
    simp (config := {decide := true}) only [Dv.get, Dv.xV, Dv.xC, Dv.frz, Dv.frzs, Dv.flat, Dv.flats, Dv.clean, Dv.cleans, Dv.frzSlot, Dv.frz1, Dv.frzAt, Dv.put, Dv.addD, Dv.subD, Dv.mulD, Dv.fdivD, Dv.modD, Dv.negD, Dv.x2, Dv.x1, Dv.xsN, Dv.xsC, Dv.xTup, Dv.xLst, Dv.xCall, Dv.asB, Dv.tOf, Dv.tNot, Dv.tAnd, Dv.tOr, Dv.xB, Dv.xIf, Dv.cmpI, Dv.ltD, Dv.leD, Dv.gtD, Dv.geD, Dv.xAnd, Dv.xOr, Dv.xNot, Dv.sN, Dv.sSeq, Dv.sSet, Dv.sRet, Dv.sRetV, Dv.sIf, Dv.sBk, Dv.sCt, Dv.gN, Dv.gsN, Dv.gsC, Dv.gT, Dv.fnD, Dv.ixD, Dv.slD, Dv.pN, Dv.pI, Dv.xSl, Dv.lenD', Dv.intD, Dv.maxD, Dv.minD, Dv.allD, Dv.anyD, Dv.allB, Dv.listD, Dv.xF, Dv.isiD, Dv.eqD, Dv.neD, Dv.isND, Dv.notND, Dv.isN2, Dv.notN2, Dv.sApp, Dv.itL, Dv.itR1, Dv.itR2, Dv.rngL, Dv.zipL, Dv.zipO, Dv.itZ, Dv.enuL, Dv.enuO, Dv.itEn, Dv.wipeD, Dv.keepD, Dv.tY, Dv.sAsg, Dv.sPar, Dv.sPar3, Dv.sAugI, Dv.sDrop, Dv.at_20, Dv.at_21, Dv.at_30, Dv.at_31, Dv.at_32, Dv.at_40, Dv.at_41, Dv.at_42, Dv.at_43, Dv.at_10, Dv.frzs_ints, Dv.cleans_ints, Dv.le_sLine, Dv.sh_non, Dv.sh_bl, Dv.sh_int, Dv.sh_tup, Dv.sh_lst, Dv.eqo_int, Dv.eqo_bl, Dv.eqo_tup, Dv.eqo_lst, Dv.eqos_nil, Dv.eqos_cons, List.all_cons, List.all_nil, Dv.beq_tt, Dv.beq_ff, Dv.beq_tf, Dv.beq_ft, List.getElem?_cons_zero, List.getElem?_cons_succ, List.getElem?_nil, List.set_cons_zero, List.set_cons_succ, List.set_nil, Option.bind_some, Option.bind_none, Option.map_some, Option.map_none, if_true, if_false, ↓reduceIte, decide_true, decide_false, Bool.false_eq_true, Bool.true_and, Bool.and_true, Bool.false_and, Bool.and_false, Bool.not_true, Bool.not_false, Bool.true_or, Bool.or_true, Bool.false_or, Bool.or_false, List.cons_append, List.nil_append, List.length_cons, List.length_nil, List.map_cons, List.map_nil, List.replicate_succ, List.replicate_zero, Nat.reduceAdd, Nat.reduceSub, Nat.reduceLT, Nat.reduceEqDiff, Nat.reduceLeDiff, Int.reduceAdd, Int.reduceSub, Int.reduceMul, Int.reduceNeg, Int.reduceLT, Int.reduceLE, Int.reduceEq, Int.reduceMod, Int.reduceDiv, Int.reduceToNat, Nat.add_zero, Nat.zero_add, List.contains_cons, List.contains_nil, Nat.reduceBEq, beq_self_eq_true, reduceCtorEq, and_true, true_and, and_false, false_and, not_true_eq_false, not_false_eq_true, Dv.mulOk_sz]
  unfold s__law_side
  refine seq_E (R := fun r => ∃ a b c, r = some (.rt (.tup [.int a, .int b, .int c])) ∧ (a ≠ 0 ∨ b ≠ 0) ∧ Bd 2000000 a ∧ Bd 2000000 b ∧ Bd 1000000000 c) (fun τ => τ = [some (.lst false (L.map O.int)), some (.int x), some (.int y), none]) ⟨_, by simp (config := {decide := true}) only [Dv.get, Dv.xV, Dv.xC, Dv.frz, Dv.frzs, Dv.flat, Dv.flats, Dv.clean, Dv.cleans, Dv.frzSlot, Dv.frz1, Dv.frzAt, Dv.put, Dv.addD, Dv.subD, Dv.mulD, Dv.fdivD, Dv.modD, Dv.negD, Dv.x2, Dv.x1, Dv.xsN, Dv.xsC, Dv.xTup, Dv.xLst, Dv.xCall, Dv.asB, Dv.tOf, Dv.tNot, Dv.tAnd, Dv.tOr, Dv.xB, Dv.xIf, Dv.cmpI, Dv.ltD, Dv.leD, Dv.gtD, Dv.geD, Dv.xAnd, Dv.xOr, Dv.xNot, Dv.sN, Dv.sSeq, Dv.sSet, Dv.sRet, Dv.sRetV, Dv.sIf, Dv.sBk, Dv.sCt, Dv.gN, Dv.gsN, Dv.gsC, Dv.gT, Dv.fnD, Dv.ixD, Dv.slD, Dv.pN, Dv.pI, Dv.xSl, Dv.lenD', Dv.intD, Dv.maxD, Dv.minD, Dv.allD, Dv.anyD, Dv.allB, Dv.listD, Dv.xF, Dv.isiD, Dv.eqD, Dv.neD, Dv.isND, Dv.notND, Dv.isN2, Dv.notN2, Dv.sApp, Dv.itL, Dv.itR1, Dv.itR2, Dv.rngL, Dv.zipL, Dv.zipO, Dv.itZ, Dv.enuL, Dv.enuO, Dv.itEn, Dv.wipeD, Dv.keepD, Dv.tY, Dv.sAsg, Dv.sPar, Dv.sPar3, Dv.sAugI, Dv.sDrop, Dv.at_20, Dv.at_21, Dv.at_30, Dv.at_31, Dv.at_32, Dv.at_40, Dv.at_41, Dv.at_42, Dv.at_43, Dv.at_10, Dv.frzs_ints, Dv.cleans_ints, Dv.le_sLine, Dv.sh_non, Dv.sh_bl, Dv.sh_int, Dv.sh_tup, Dv.sh_lst, Dv.eqo_int, Dv.eqo_bl, Dv.eqo_tup, Dv.eqo_lst, Dv.eqos_nil, Dv.eqos_cons, List.all_cons, List.all_nil, Dv.beq_tt, Dv.beq_ff, Dv.beq_tf, Dv.beq_ft, List.getElem?_cons_zero, List.getElem?_cons_succ, List.getElem?_nil, List.set_cons_zero, List.set_cons_succ, List.set_nil, Option.bind_some, Option.bind_none, Option.map_some, Option.map_none, if_true, if_false, ↓reduceIte, decide_true, decide_false, Bool.false_eq_true, Bool.true_and, Bool.and_true, Bool.false_and, Bool.and_false, Bool.not_true, Bool.not_false, Bool.true_or, Bool.or_true, Bool.false_or, Bool.or_false, List.cons_append, List.nil_append, List.length_cons, List.length_nil, List.map_cons, List.map_nil, List.replicate_succ, List.replicate_zero, Nat.reduceAdd, Nat.reduceSub, Nat.reduceLT, Nat.reduceEqDiff, Nat.reduceLeDiff, Int.reduceAdd, Int.reduceSub, Int.reduceMul, Int.reduceNeg, Int.reduceLT, Int.reduceLE, Int.reduceEq, Int.reduceMod, Int.reduceDiv, Int.reduceToNat, Nat.add_zero, Nat.zero_add, List.contains_cons, List.contains_nil, Nat.reduceBEq, beq_self_eq_true, reduceCtorEq, and_true, true_and, and_false, false_and, not_true_eq_false, not_false_eq_true, Dv.mulOk_sz, i0, i1, i4, hw, hxy] <;> rfl, rfl⟩ ?_
  rintro τ rfl
  refine seq_E (R := fun r => ∃ a b c, r = some (.rt (.tup [.int a, .int b, .int c])) ∧ (a ≠ 0 ∨ b ≠ 0) ∧ Bd 2000000 a ∧ Bd 2000000 b ∧ Bd 1000000000 c) (fun τ => ∃ c, Bd 1000000 c ∧ τ = [some (.lst false (L.map O.int)), some (.int x), some (.int y), some (.int c)]) ⟨_, by simp (config := {decide := true}) only [Dv.get, Dv.xV, Dv.xC, Dv.frz, Dv.frzs, Dv.flat, Dv.flats, Dv.clean, Dv.cleans, Dv.frzSlot, Dv.frz1, Dv.frzAt, Dv.put, Dv.addD, Dv.subD, Dv.mulD, Dv.fdivD, Dv.modD, Dv.negD, Dv.x2, Dv.x1, Dv.xsN, Dv.xsC, Dv.xTup, Dv.xLst, Dv.xCall, Dv.asB, Dv.tOf, Dv.tNot, Dv.tAnd, Dv.tOr, Dv.xB, Dv.xIf, Dv.cmpI, Dv.ltD, Dv.leD, Dv.gtD, Dv.geD, Dv.xAnd, Dv.xOr, Dv.xNot, Dv.sN, Dv.sSeq, Dv.sSet, Dv.sRet, Dv.sRetV, Dv.sIf, Dv.sBk, Dv.sCt, Dv.gN, Dv.gsN, Dv.gsC, Dv.gT, Dv.fnD, Dv.ixD, Dv.slD, Dv.pN, Dv.pI, Dv.xSl, Dv.lenD', Dv.intD, Dv.maxD, Dv.minD, Dv.allD, Dv.anyD, Dv.allB, Dv.listD, Dv.xF, Dv.isiD, Dv.eqD, Dv.neD, Dv.isND, Dv.notND, Dv.isN2, Dv.notN2, Dv.sApp, Dv.itL, Dv.itR1, Dv.itR2, Dv.rngL, Dv.zipL, Dv.zipO, Dv.itZ, Dv.enuL, Dv.enuO, Dv.itEn, Dv.wipeD, Dv.keepD, Dv.tY, Dv.sAsg, Dv.sPar, Dv.sPar3, Dv.sAugI, Dv.sDrop, Dv.at_20, Dv.at_21, Dv.at_30, Dv.at_31, Dv.at_32, Dv.at_40, Dv.at_41, Dv.at_42, Dv.at_43, Dv.at_10, Dv.frzs_ints, Dv.cleans_ints, Dv.le_sLine, Dv.sh_non, Dv.sh_bl, Dv.sh_int, Dv.sh_tup, Dv.sh_lst, Dv.eqo_int, Dv.eqo_bl, Dv.eqo_tup, Dv.eqo_lst, Dv.eqos_nil, Dv.eqos_cons, List.all_cons, List.all_nil, Dv.beq_tt, Dv.beq_ff, Dv.beq_tf, Dv.beq_ft, List.getElem?_cons_zero, List.getElem?_cons_succ, List.getElem?_nil, List.set_cons_zero, List.set_cons_succ, List.set_nil, Option.bind_some, Option.bind_none, Option.map_some, Option.map_none, if_true, if_false, ↓reduceIte, decide_true, decide_false, Bool.false_eq_true, Bool.true_and, Bool.and_true, Bool.false_and, Bool.and_false, Bool.not_true, Bool.not_false, Bool.true_or, Bool.or_true, Bool.false_or, Bool.or_false, List.cons_append, List.nil_append, List.length_cons, List.length_nil, List.map_cons, List.map_nil, List.replicate_succ, List.replicate_zero, Nat.reduceAdd, Nat.reduceSub, Nat.reduceLT, Nat.reduceEqDiff, Nat.reduceLeDiff, Int.reduceAdd, Int.reduceSub, Int.reduceMul, Int.reduceNeg, Int.reduceLT, Int.reduceLE, Int.reduceEq, Int.reduceMod, Int.reduceDiv, Int.reduceToNat, Nat.add_zero, Nat.zero_add, List.contains_cons, List.contains_nil, Nat.reduceBEq, beq_self_eq_true, reduceCtorEq, and_true, true_and, and_false, false_and, not_true_eq_false, not_false_eq_true, Dv.mulOk_sz, i2] <;> rfl, _, by unfold Bd; omega, rfl⟩ ?_
  rintro τ ⟨c, hc, rfl⟩
  refine seq_E (R := fun r => ∃ a b c, r = some (.rt (.tup [.int a, .int b, .int c])) ∧ (a ≠ 0 ∨ b ≠ 0) ∧ Bd 2000000 a ∧ Bd 2000000 b ∧ Bd 1000000000 c) (fun τ => ∃ c, Bd 1000000 c ∧ τ = [some (.lst false (L.map O.int)), some (.int x), some (.int y), some (.int c)]) ?_ ?_
  · by_cases h : a3 % 4 = 1
    · exact ⟨_, by simp (config := {decide := true}) only [Dv.get, Dv.xV, Dv.xC, Dv.frz, Dv.frzs, Dv.flat, Dv.flats, Dv.clean, Dv.cleans, Dv.frzSlot, Dv.frz1, Dv.frzAt, Dv.put, Dv.addD, Dv.subD, Dv.mulD, Dv.fdivD, Dv.modD, Dv.negD, Dv.x2, Dv.x1, Dv.xsN, Dv.xsC, Dv.xTup, Dv.xLst, Dv.xCall, Dv.asB, Dv.tOf, Dv.tNot, Dv.tAnd, Dv.tOr, Dv.xB, Dv.xIf, Dv.cmpI, Dv.ltD, Dv.leD, Dv.gtD, Dv.geD, Dv.xAnd, Dv.xOr, Dv.xNot, Dv.sN, Dv.sSeq, Dv.sSet, Dv.sRet, Dv.sRetV, Dv.sIf, Dv.sBk, Dv.sCt, Dv.gN, Dv.gsN, Dv.gsC, Dv.gT, Dv.fnD, Dv.ixD, Dv.slD, Dv.pN, Dv.pI, Dv.xSl, Dv.lenD', Dv.intD, Dv.maxD, Dv.minD, Dv.allD, Dv.anyD, Dv.allB, Dv.listD, Dv.xF, Dv.isiD, Dv.eqD, Dv.neD, Dv.isND, Dv.notND, Dv.isN2, Dv.notN2, Dv.sApp, Dv.itL, Dv.itR1, Dv.itR2, Dv.rngL, Dv.zipL, Dv.zipO, Dv.itZ, Dv.enuL, Dv.enuO, Dv.itEn, Dv.wipeD, Dv.keepD, Dv.tY, Dv.sAsg, Dv.sPar, Dv.sPar3, Dv.sAugI, Dv.sDrop, Dv.at_20, Dv.at_21, Dv.at_30, Dv.at_31, Dv.at_32, Dv.at_40, Dv.at_41, Dv.at_42, Dv.at_43, Dv.at_10, Dv.frzs_ints, Dv.cleans_ints, Dv.le_sLine, Dv.sh_non, Dv.sh_bl, Dv.sh_int, Dv.sh_tup, Dv.sh_lst, Dv.eqo_int, Dv.eqo_bl, Dv.eqo_tup, Dv.eqo_lst, Dv.eqos_nil, Dv.eqos_cons, List.all_cons, List.all_nil, Dv.beq_tt, Dv.beq_ff, Dv.beq_tf, Dv.beq_ft, List.getElem?_cons_zero, List.getElem?_cons_succ, List.getElem?_nil, List.set_cons_zero, List.set_cons_succ, List.set_nil, Option.bind_some, Option.bind_none, Option.map_some, Option.map_none, if_true, if_false, ↓reduceIte, decide_true, decide_false, Bool.false_eq_true, Bool.true_and, Bool.and_true, Bool.false_and, Bool.and_false, Bool.not_true, Bool.not_false, Bool.true_or, Bool.or_true, Bool.false_or, Bool.or_false, List.cons_append, List.nil_append, List.length_cons, List.length_nil, List.map_cons, List.map_nil, List.replicate_succ, List.replicate_zero, Nat.reduceAdd, Nat.reduceSub, Nat.reduceLT, Nat.reduceEqDiff, Nat.reduceLeDiff, Int.reduceAdd, Int.reduceSub, Int.reduceMul, Int.reduceNeg, Int.reduceLT, Int.reduceLE, Int.reduceEq, Int.reduceMod, Int.reduceDiv, Int.reduceToNat, Nat.add_zero, Nat.zero_add, List.contains_cons, List.contains_nil, Nat.reduceBEq, beq_self_eq_true, reduceCtorEq, and_true, true_and, and_false, false_and, not_true_eq_false, not_false_eq_true, Dv.mulOk_sz, i2, i3, h] <;> rfl, _, by unfold Bd; omega, rfl⟩
    · exact ⟨_, by simp (config := {decide := true}) only [Dv.get, Dv.xV, Dv.xC, Dv.frz, Dv.frzs, Dv.flat, Dv.flats, Dv.clean, Dv.cleans, Dv.frzSlot, Dv.frz1, Dv.frzAt, Dv.put, Dv.addD, Dv.subD, Dv.mulD, Dv.fdivD, Dv.modD, Dv.negD, Dv.x2, Dv.x1, Dv.xsN, Dv.xsC, Dv.xTup, Dv.xLst, Dv.xCall, Dv.asB, Dv.tOf, Dv.tNot, Dv.tAnd, Dv.tOr, Dv.xB, Dv.xIf, Dv.cmpI, Dv.ltD, Dv.leD, Dv.gtD, Dv.geD, Dv.xAnd, Dv.xOr, Dv.xNot, Dv.sN, Dv.sSeq, Dv.sSet, Dv.sRet, Dv.sRetV, Dv.sIf, Dv.sBk, Dv.sCt, Dv.gN, Dv.gsN, Dv.gsC, Dv.gT, Dv.fnD, Dv.ixD, Dv.slD, Dv.pN, Dv.pI, Dv.xSl, Dv.lenD', Dv.intD, Dv.maxD, Dv.minD, Dv.allD, Dv.anyD, Dv.allB, Dv.listD, Dv.xF, Dv.isiD, Dv.eqD, Dv.neD, Dv.isND, Dv.notND, Dv.isN2, Dv.notN2, Dv.sApp, Dv.itL, Dv.itR1, Dv.itR2, Dv.rngL, Dv.zipL, Dv.zipO, Dv.itZ, Dv.enuL, Dv.enuO, Dv.itEn, Dv.wipeD, Dv.keepD, Dv.tY, Dv.sAsg, Dv.sPar, Dv.sPar3, Dv.sAugI, Dv.sDrop, Dv.at_20, Dv.at_21, Dv.at_30, Dv.at_31, Dv.at_32, Dv.at_40, Dv.at_41, Dv.at_42, Dv.at_43, Dv.at_10, Dv.frzs_ints, Dv.cleans_ints, Dv.le_sLine, Dv.sh_non, Dv.sh_bl, Dv.sh_int, Dv.sh_tup, Dv.sh_lst, Dv.eqo_int, Dv.eqo_bl, Dv.eqo_tup, Dv.eqo_lst, Dv.eqos_nil, Dv.eqos_cons, List.all_cons, List.all_nil, Dv.beq_tt, Dv.beq_ff, Dv.beq_tf, Dv.beq_ft, List.getElem?_cons_zero, List.getElem?_cons_succ, List.getElem?_nil, List.set_cons_zero, List.set_cons_succ, List.set_nil, Option.bind_some, Option.bind_none, Option.map_some, Option.map_none, if_true, if_false, ↓reduceIte, decide_true, decide_false, Bool.false_eq_true, Bool.true_and, Bool.and_true, Bool.false_and, Bool.and_false, Bool.not_true, Bool.not_false, Bool.true_or, Bool.or_true, Bool.false_or, Bool.or_false, List.cons_append, List.nil_append, List.length_cons, List.length_nil, List.map_cons, List.map_nil, List.replicate_succ, List.replicate_zero, Nat.reduceAdd, Nat.reduceSub, Nat.reduceLT, Nat.reduceEqDiff, Nat.reduceLeDiff, Int.reduceAdd, Int.reduceSub, Int.reduceMul, Int.reduceNeg, Int.reduceLT, Int.reduceLE, Int.reduceEq, Int.reduceMod, Int.reduceDiv, Int.reduceToNat, Nat.add_zero, Nat.zero_add, List.contains_cons, List.contains_nil, Nat.reduceBEq, beq_self_eq_true, reduceCtorEq, and_true, true_and, and_false, false_and, not_true_eq_false, not_false_eq_true, Dv.mulOk_sz, i2, i3, h] <;> rfl, _, hc, rfl⟩
  rintro τ ⟨c, hc, rfl⟩
  refine seq_E (R := fun r => ∃ a b c, r = some (.rt (.tup [.int a, .int b, .int c])) ∧ (a ≠ 0 ∨ b ≠ 0) ∧ Bd 2000000 a ∧ Bd 2000000 b ∧ Bd 1000000000 c) (fun τ => ∃ c, Bd 1000000 c ∧ τ = [some (.lst false (L.map O.int)), some (.int x), some (.int y), some (.int c)]) ?_ ?_
  · by_cases h : a3 % 4 = 2
    · exact ⟨_, by simp (config := {decide := true}) only [Dv.get, Dv.xV, Dv.xC, Dv.frz, Dv.frzs, Dv.flat, Dv.flats, Dv.clean, Dv.cleans, Dv.frzSlot, Dv.frz1, Dv.frzAt, Dv.put, Dv.addD, Dv.subD, Dv.mulD, Dv.fdivD, Dv.modD, Dv.negD, Dv.x2, Dv.x1, Dv.xsN, Dv.xsC, Dv.xTup, Dv.xLst, Dv.xCall, Dv.asB, Dv.tOf, Dv.tNot, Dv.tAnd, Dv.tOr, Dv.xB, Dv.xIf, Dv.cmpI, Dv.ltD, Dv.leD, Dv.gtD, Dv.geD, Dv.xAnd, Dv.xOr, Dv.xNot, Dv.sN, Dv.sSeq, Dv.sSet, Dv.sRet, Dv.sRetV, Dv.sIf, Dv.sBk, Dv.sCt, Dv.gN, Dv.gsN, Dv.gsC, Dv.gT, Dv.fnD, Dv.ixD, Dv.slD, Dv.pN, Dv.pI, Dv.xSl, Dv.lenD', Dv.intD, Dv.maxD, Dv.minD, Dv.allD, Dv.anyD, Dv.allB, Dv.listD, Dv.xF, Dv.isiD, Dv.eqD, Dv.neD, Dv.isND, Dv.notND, Dv.isN2, Dv.notN2, Dv.sApp, Dv.itL, Dv.itR1, Dv.itR2, Dv.rngL, Dv.zipL, Dv.zipO, Dv.itZ, Dv.enuL, Dv.enuO, Dv.itEn, Dv.wipeD, Dv.keepD, Dv.tY, Dv.sAsg, Dv.sPar, Dv.sPar3, Dv.sAugI, Dv.sDrop, Dv.at_20, Dv.at_21, Dv.at_30, Dv.at_31, Dv.at_32, Dv.at_40, Dv.at_41, Dv.at_42, Dv.at_43, Dv.at_10, Dv.frzs_ints, Dv.cleans_ints, Dv.le_sLine, Dv.sh_non, Dv.sh_bl, Dv.sh_int, Dv.sh_tup, Dv.sh_lst, Dv.eqo_int, Dv.eqo_bl, Dv.eqo_tup, Dv.eqo_lst, Dv.eqos_nil, Dv.eqos_cons, List.all_cons, List.all_nil, Dv.beq_tt, Dv.beq_ff, Dv.beq_tf, Dv.beq_ft, List.getElem?_cons_zero, List.getElem?_cons_succ, List.getElem?_nil, List.set_cons_zero, List.set_cons_succ, List.set_nil, Option.bind_some, Option.bind_none, Option.map_some, Option.map_none, if_true, if_false, ↓reduceIte, decide_true, decide_false, Bool.false_eq_true, Bool.true_and, Bool.and_true, Bool.false_and, Bool.and_false, Bool.not_true, Bool.not_false, Bool.true_or, Bool.or_true, Bool.false_or, Bool.or_false, List.cons_append, List.nil_append, List.length_cons, List.length_nil, List.map_cons, List.map_nil, List.replicate_succ, List.replicate_zero, Nat.reduceAdd, Nat.reduceSub, Nat.reduceLT, Nat.reduceEqDiff, Nat.reduceLeDiff, Int.reduceAdd, Int.reduceSub, Int.reduceMul, Int.reduceNeg, Int.reduceLT, Int.reduceLE, Int.reduceEq, Int.reduceMod, Int.reduceDiv, Int.reduceToNat, Nat.add_zero, Nat.zero_add, List.contains_cons, List.contains_nil, Nat.reduceBEq, beq_self_eq_true, reduceCtorEq, and_true, true_and, and_false, false_and, not_true_eq_false, not_false_eq_true, Dv.mulOk_sz, i2, i3, h, d9, hu, hv] <;> rfl, _, by unfold Bd; omega, rfl⟩
    · exact ⟨_, by simp (config := {decide := true}) only [Dv.get, Dv.xV, Dv.xC, Dv.frz, Dv.frzs, Dv.flat, Dv.flats, Dv.clean, Dv.cleans, Dv.frzSlot, Dv.frz1, Dv.frzAt, Dv.put, Dv.addD, Dv.subD, Dv.mulD, Dv.fdivD, Dv.modD, Dv.negD, Dv.x2, Dv.x1, Dv.xsN, Dv.xsC, Dv.xTup, Dv.xLst, Dv.xCall, Dv.asB, Dv.tOf, Dv.tNot, Dv.tAnd, Dv.tOr, Dv.xB, Dv.xIf, Dv.cmpI, Dv.ltD, Dv.leD, Dv.gtD, Dv.geD, Dv.xAnd, Dv.xOr, Dv.xNot, Dv.sN, Dv.sSeq, Dv.sSet, Dv.sRet, Dv.sRetV, Dv.sIf, Dv.sBk, Dv.sCt, Dv.gN, Dv.gsN, Dv.gsC, Dv.gT, Dv.fnD, Dv.ixD, Dv.slD, Dv.pN, Dv.pI, Dv.xSl, Dv.lenD', Dv.intD, Dv.maxD, Dv.minD, Dv.allD, Dv.anyD, Dv.allB, Dv.listD, Dv.xF, Dv.isiD, Dv.eqD, Dv.neD, Dv.isND, Dv.notND, Dv.isN2, Dv.notN2, Dv.sApp, Dv.itL, Dv.itR1, Dv.itR2, Dv.rngL, Dv.zipL, Dv.zipO, Dv.itZ, Dv.enuL, Dv.enuO, Dv.itEn, Dv.wipeD, Dv.keepD, Dv.tY, Dv.sAsg, Dv.sPar, Dv.sPar3, Dv.sAugI, Dv.sDrop, Dv.at_20, Dv.at_21, Dv.at_30, Dv.at_31, Dv.at_32, Dv.at_40, Dv.at_41, Dv.at_42, Dv.at_43, Dv.at_10, Dv.frzs_ints, Dv.cleans_ints, Dv.le_sLine, Dv.sh_non, Dv.sh_bl, Dv.sh_int, Dv.sh_tup, Dv.sh_lst, Dv.eqo_int, Dv.eqo_bl, Dv.eqo_tup, Dv.eqo_lst, Dv.eqos_nil, Dv.eqos_cons, List.all_cons, List.all_nil, Dv.beq_tt, Dv.beq_ff, Dv.beq_tf, Dv.beq_ft, List.getElem?_cons_zero, List.getElem?_cons_succ, List.getElem?_nil, List.set_cons_zero, List.set_cons_succ, List.set_nil, Option.bind_some, Option.bind_none, Option.map_some, Option.map_none, if_true, if_false, ↓reduceIte, decide_true, decide_false, Bool.false_eq_true, Bool.true_and, Bool.and_true, Bool.false_and, Bool.and_false, Bool.not_true, Bool.not_false, Bool.true_or, Bool.or_true, Bool.false_or, Bool.or_false, List.cons_append, List.nil_append, List.length_cons, List.length_nil, List.map_cons, List.map_nil, List.replicate_succ, List.replicate_zero, Nat.reduceAdd, Nat.reduceSub, Nat.reduceLT, Nat.reduceEqDiff, Nat.reduceLeDiff, Int.reduceAdd, Int.reduceSub, Int.reduceMul, Int.reduceNeg, Int.reduceLT, Int.reduceLE, Int.reduceEq, Int.reduceMod, Int.reduceDiv, Int.reduceToNat, Nat.add_zero, Nat.zero_add, List.contains_cons, List.contains_nil, Nat.reduceBEq, beq_self_eq_true, reduceCtorEq, and_true, true_and, and_false, false_and, not_true_eq_false, not_false_eq_true, Dv.mulOk_sz, i2, i3, h] <;> rfl, _, hc, rfl⟩
  rintro τ ⟨c, hc, rfl⟩
  haveI : Sz 1 c := sz1 (by omega) (by omega)
  by_cases h : a4 / 5 % 12 = 1
  · refine ⟨997 * x + a0 % 5 - 2, 997 * y + a1 % 5 - 2, 997 * c + a3 % 900, ?_, by omega, by unfold Bd; omega, by unfold Bd; omega, by unfold Bd; omega⟩
    refine seq_rt ?_
    simp (config := {decide := true}) only [Dv.get, Dv.xV, Dv.xC, Dv.frz, Dv.frzs, Dv.flat, Dv.flats, Dv.clean, Dv.cleans, Dv.frzSlot, Dv.frz1, Dv.frzAt, Dv.put, Dv.addD, Dv.subD, Dv.mulD, Dv.fdivD, Dv.modD, Dv.negD, Dv.x2, Dv.x1, Dv.xsN, Dv.xsC, Dv.xTup, Dv.xLst, Dv.xCall, Dv.asB, Dv.tOf, Dv.tNot, Dv.tAnd, Dv.tOr, Dv.xB, Dv.xIf, Dv.cmpI, Dv.ltD, Dv.leD, Dv.gtD, Dv.geD, Dv.xAnd, Dv.xOr, Dv.xNot, Dv.sN, Dv.sSeq, Dv.sSet, Dv.sRet, Dv.sRetV, Dv.sIf, Dv.sBk, Dv.sCt, Dv.gN, Dv.gsN, Dv.gsC, Dv.gT, Dv.fnD, Dv.ixD, Dv.slD, Dv.pN, Dv.pI, Dv.xSl, Dv.lenD', Dv.intD, Dv.maxD, Dv.minD, Dv.allD, Dv.anyD, Dv.allB, Dv.listD, Dv.xF, Dv.isiD, Dv.eqD, Dv.neD, Dv.isND, Dv.notND, Dv.isN2, Dv.notN2, Dv.sApp, Dv.itL, Dv.itR1, Dv.itR2, Dv.rngL, Dv.zipL, Dv.zipO, Dv.itZ, Dv.enuL, Dv.enuO, Dv.itEn, Dv.wipeD, Dv.keepD, Dv.tY, Dv.sAsg, Dv.sPar, Dv.sPar3, Dv.sAugI, Dv.sDrop, Dv.at_20, Dv.at_21, Dv.at_30, Dv.at_31, Dv.at_32, Dv.at_40, Dv.at_41, Dv.at_42, Dv.at_43, Dv.at_10, Dv.frzs_ints, Dv.cleans_ints, Dv.le_sLine, Dv.sh_non, Dv.sh_bl, Dv.sh_int, Dv.sh_tup, Dv.sh_lst, Dv.eqo_int, Dv.eqo_bl, Dv.eqo_tup, Dv.eqo_lst, Dv.eqos_nil, Dv.eqos_cons, List.all_cons, List.all_nil, Dv.beq_tt, Dv.beq_ff, Dv.beq_tf, Dv.beq_ft, List.getElem?_cons_zero, List.getElem?_cons_succ, List.getElem?_nil, List.set_cons_zero, List.set_cons_succ, List.set_nil, Option.bind_some, Option.bind_none, Option.map_some, Option.map_none, if_true, if_false, ↓reduceIte, decide_true, decide_false, Bool.false_eq_true, Bool.true_and, Bool.and_true, Bool.false_and, Bool.and_false, Bool.not_true, Bool.not_false, Bool.true_or, Bool.or_true, Bool.false_or, Bool.or_false, List.cons_append, List.nil_append, List.length_cons, List.length_nil, List.map_cons, List.map_nil, List.replicate_succ, List.replicate_zero, Nat.reduceAdd, Nat.reduceSub, Nat.reduceLT, Nat.reduceEqDiff, Nat.reduceLeDiff, Int.reduceAdd, Int.reduceSub, Int.reduceMul, Int.reduceNeg, Int.reduceLT, Int.reduceLE, Int.reduceEq, Int.reduceMod, Int.reduceDiv, Int.reduceToNat, Nat.add_zero, Nat.zero_add, List.contains_cons, List.contains_nil, Nat.reduceBEq, beq_self_eq_true, reduceCtorEq, and_true, true_and, and_false, false_and, not_true_eq_false, not_false_eq_true, Dv.mulOk_sz, i0, i1, i3, i4, d5, h]
  · refine ⟨x, y, c, ?_, nz, by unfold Bd; omega, by unfold Bd; omega, Nat.le_trans hc (by decide)⟩
    refine Dv.seq_nx (by simp (config := {decide := true}) only [Dv.get, Dv.xV, Dv.xC, Dv.frz, Dv.frzs, Dv.flat, Dv.flats, Dv.clean, Dv.cleans, Dv.frzSlot, Dv.frz1, Dv.frzAt, Dv.put, Dv.addD, Dv.subD, Dv.mulD, Dv.fdivD, Dv.modD, Dv.negD, Dv.x2, Dv.x1, Dv.xsN, Dv.xsC, Dv.xTup, Dv.xLst, Dv.xCall, Dv.asB, Dv.tOf, Dv.tNot, Dv.tAnd, Dv.tOr, Dv.xB, Dv.xIf, Dv.cmpI, Dv.ltD, Dv.leD, Dv.gtD, Dv.geD, Dv.xAnd, Dv.xOr, Dv.xNot, Dv.sN, Dv.sSeq, Dv.sSet, Dv.sRet, Dv.sRetV, Dv.sIf, Dv.sBk, Dv.sCt, Dv.gN, Dv.gsN, Dv.gsC, Dv.gT, Dv.fnD, Dv.ixD, Dv.slD, Dv.pN, Dv.pI, Dv.xSl, Dv.lenD', Dv.intD, Dv.maxD, Dv.minD, Dv.allD, Dv.anyD, Dv.allB, Dv.listD, Dv.xF, Dv.isiD, Dv.eqD, Dv.neD, Dv.isND, Dv.notND, Dv.isN2, Dv.notN2, Dv.sApp, Dv.itL, Dv.itR1, Dv.itR2, Dv.rngL, Dv.zipL, Dv.zipO, Dv.itZ, Dv.enuL, Dv.enuO, Dv.itEn, Dv.wipeD, Dv.keepD, Dv.tY, Dv.sAsg, Dv.sPar, Dv.sPar3, Dv.sAugI, Dv.sDrop, Dv.at_20, Dv.at_21, Dv.at_30, Dv.at_31, Dv.at_32, Dv.at_40, Dv.at_41, Dv.at_42, Dv.at_43, Dv.at_10, Dv.frzs_ints, Dv.cleans_ints, Dv.le_sLine, Dv.sh_non, Dv.sh_bl, Dv.sh_int, Dv.sh_tup, Dv.sh_lst, Dv.eqo_int, Dv.eqo_bl, Dv.eqo_tup, Dv.eqo_lst, Dv.eqos_nil, Dv.eqos_cons, List.all_cons, List.all_nil, Dv.beq_tt, Dv.beq_ff, Dv.beq_tf, Dv.beq_ft, List.getElem?_cons_zero, List.getElem?_cons_succ, List.getElem?_nil, List.set_cons_zero, List.set_cons_succ, List.set_nil, Option.bind_some, Option.bind_none, Option.map_some, Option.map_none, if_true, if_false, ↓reduceIte, decide_true, decide_false, Bool.false_eq_true, Bool.true_and, Bool.and_true, Bool.false_and, Bool.and_false, Bool.not_true, Bool.not_false, Bool.true_or, Bool.or_true, Bool.false_or, Bool.or_false, List.cons_append, List.nil_append, List.length_cons, List.length_nil, List.map_cons, List.map_nil, List.replicate_succ, List.replicate_zero, Nat.reduceAdd, Nat.reduceSub, Nat.reduceLT, Nat.reduceEqDiff, Nat.reduceLeDiff, Int.reduceAdd, Int.reduceSub, Int.reduceMul, Int.reduceNeg, Int.reduceLT, Int.reduceLE, Int.reduceEq, Int.reduceMod, Int.reduceDiv, Int.reduceToNat, Nat.add_zero, Nat.zero_add, List.contains_cons, List.contains_nil, Nat.reduceBEq, beq_self_eq_true, reduceCtorEq, and_true, true_and, and_false, false_and, not_true_eq_false, not_false_eq_true, Dv.mulOk_sz, i4, d5, h] <;> rfl) ?_
    simp (config := {decide := true}) only [Dv.get, Dv.xV, Dv.xC, Dv.frz, Dv.frzs, Dv.flat, Dv.flats, Dv.clean, Dv.cleans, Dv.frzSlot, Dv.frz1, Dv.frzAt, Dv.put, Dv.addD, Dv.subD, Dv.mulD, Dv.fdivD, Dv.modD, Dv.negD, Dv.x2, Dv.x1, Dv.xsN, Dv.xsC, Dv.xTup, Dv.xLst, Dv.xCall, Dv.asB, Dv.tOf, Dv.tNot, Dv.tAnd, Dv.tOr, Dv.xB, Dv.xIf, Dv.cmpI, Dv.ltD, Dv.leD, Dv.gtD, Dv.geD, Dv.xAnd, Dv.xOr, Dv.xNot, Dv.sN, Dv.sSeq, Dv.sSet, Dv.sRet, Dv.sRetV, Dv.sIf, Dv.sBk, Dv.sCt, Dv.gN, Dv.gsN, Dv.gsC, Dv.gT, Dv.fnD, Dv.ixD, Dv.slD, Dv.pN, Dv.pI, Dv.xSl, Dv.lenD', Dv.intD, Dv.maxD, Dv.minD, Dv.allD, Dv.anyD, Dv.allB, Dv.listD, Dv.xF, Dv.isiD, Dv.eqD, Dv.neD, Dv.isND, Dv.notND, Dv.isN2, Dv.notN2, Dv.sApp, Dv.itL, Dv.itR1, Dv.itR2, Dv.rngL, Dv.zipL, Dv.zipO, Dv.itZ, Dv.enuL, Dv.enuO, Dv.itEn, Dv.wipeD, Dv.keepD, Dv.tY, Dv.sAsg, Dv.sPar, Dv.sPar3, Dv.sAugI, Dv.sDrop, Dv.at_20, Dv.at_21, Dv.at_30, Dv.at_31, Dv.at_32, Dv.at_40, Dv.at_41, Dv.at_42, Dv.at_43, Dv.at_10, Dv.frzs_ints, Dv.cleans_ints, Dv.le_sLine, Dv.sh_non, Dv.sh_bl, Dv.sh_int, Dv.sh_tup, Dv.sh_lst, Dv.eqo_int, Dv.eqo_bl, Dv.eqo_tup, Dv.eqo_lst, Dv.eqos_nil, Dv.eqos_cons, List.all_cons, List.all_nil, Dv.beq_tt, Dv.beq_ff, Dv.beq_tf, Dv.beq_ft, List.getElem?_cons_zero, List.getElem?_cons_succ, List.getElem?_nil, List.set_cons_zero, List.set_cons_succ, List.set_nil, Option.bind_some, Option.bind_none, Option.map_some, Option.map_none, if_true, if_false, ↓reduceIte, decide_true, decide_false, Bool.false_eq_true, Bool.true_and, Bool.and_true, Bool.false_and, Bool.and_false, Bool.not_true, Bool.not_false, Bool.true_or, Bool.or_true, Bool.false_or, Bool.or_false, List.cons_append, List.nil_append, List.length_cons, List.length_nil, List.map_cons, List.map_nil, List.replicate_succ, List.replicate_zero, Nat.reduceAdd, Nat.reduceSub, Nat.reduceLT, Nat.reduceEqDiff, Nat.reduceLeDiff, Int.reduceAdd, Int.reduceSub, Int.reduceMul, Int.reduceNeg, Int.reduceLT, Int.reduceLE, Int.reduceEq, Int.reduceMod, Int.reduceDiv, Int.reduceToNat, Nat.add_zero, Nat.zero_add, List.contains_cons, List.contains_nil, Nat.reduceBEq, beq_self_eq_true, reduceCtorEq, and_true, true_and, and_false, false_and, not_true_eq_false, not_false_eq_true, Dv.mulOk_sz]
end Sm
end
section
set_option Elab.async false
set_option linter.all false
set_option maxRecDepth 100000
namespace Sm
open Dv
/-- a drawn side, of the three sizes -/
def SdB (n m : Nat) (s : S3) : Prop := Bd n s.1 ∧ Bd n s.2.1 ∧ Bd m s.2.2 ∧ (s.1 ≠ 0 ∨ s.2.1 ≠ 0)
theorem SdB.bk {s : S3} (h : SdB 6000000 18000000000 s) : Bk 1 s := by
  obtain ⟨h1, h2, h3, _⟩ := h
  exact ⟨sz1 (by omega) (by omega), sz1 (by omega) (by omega), sz1 (by omega) (by omega)⟩
end Sm
end
section
set_option Elab.async false
set_option linter.all false
set_option maxRecDepth 100000
/-! groups of sides -/
namespace Sm
open Dv
def gO (g : List S3) : O := .lst true (g.map sO)
def gF (g : List S3) : O := .lst false (g.map sO)
theorem frz_gO (g : List S3) : frz (gO g) = gF g := enc_lfr true g
theorem frz_gF (g : List S3) : frz (gF g) = gF g := enc_lfr false g
theorem frzs_gO : ∀ (G : List (List S3)), frzs (G.map gO) = G.map gF
  | [] => rfl
  | g :: G => by
    show frz (gO g) :: frzs (G.map gO) = _
    rw [frz_gO, frzs_gO G]; rfl
theorem frzs_gF : ∀ (G : List (List S3)), frzs (G.map gF) = G.map gF
  | [] => rfl
  | g :: G => by
    show frz (gF g) :: frzs (G.map gF) = _
    rw [frz_gF, frzs_gF G]; rfl
theorem cleans_gO : ∀ (G : List (List S3)), cleans (G.map gO) = true
  | [] => rfl
  | g :: G => by
    show (clean (gO g) && cleans (G.map gO)) = true
    rw [cleans_gO G, Bool.and_true]
    exact enc_lcl g
theorem gl_frz (o : Bool) (G : List (List S3)) : frz (.lst o (G.map gO)) = .lst false (G.map gF) := by
  show O.lst false (frzs (G.map gO)) = _
  rw [frzs_gO]
theorem gl_frzF (o : Bool) (G : List (List S3)) : frz (.lst o (G.map gF)) = .lst false (G.map gF) := by
  show O.lst false (frzs (G.map gF)) = _
  rw [frzs_gF]
/-- small groups -/
def Gok (G : List (List S3)) : Prop := ∀ g ∈ G, g.length ≤ 2 ∧ ∀ s ∈ g, Bk 1 s ∧ Nz s
def GokD (G : List (List S3)) : Prop := ∀ g ∈ G, g.length ≤ 2 ∧ ∀ s ∈ g, SdB 6000000 18000000000 s
theorem sdb_mono {n m n' m' : Nat} {s : S3} (h : SdB n m s) (i : n ≤ n') (j : m ≤ m') : SdB n' m' s := by
  obtain ⟨h1, h2, h3, h4⟩ := h
  unfold Bd at *
  exact ⟨by unfold Bd; omega, by unfold Bd; omega, by unfold Bd; omega, h4⟩
theorem drop_cut (L : List Int) (k : Nat) : cut (L.map O.int) (some (k : Int)) none = (L.drop k).map O.int := by rw [cut_map]; exact congrArg _ cut_from
theorem set_last {α : Type} (y z : α) : ∀ (X : List α) (n : Nat), n = X.length → (X ++ [y]).set n z = X ++ [z]
  | [], _, rfl => rfl
  | x :: X, _, rfl => by
    show x :: (X ++ [y]).set X.length z = _
    rw [set_last y z X _ rfl]; rfl
theorem appAt_last {o : O} {A : List (List S3)} {g : List S3} {s : S3} (h : g.length ≤ 1000) : appAt (-1) (sO s) (.lst true ((A ++ [g]).map gO)) = some (.lst true ((A ++ [g ++ [s]]).map gO)) := by
  have l : ((A ++ [g]).map gO).length = A.length + 1 := by rw [List.length_map, List.length_append]; rfl
  have a : at? ((A ++ [g]).map gO) (-1) = some (gO g) := by
    unfold at?
    rw [if_neg (by decide), if_pos (by rw [l]; omega), l]
    have : ((-1 : Int) + ((A.length + 1 : Nat) : Int)).toNat = A.length := by omega
    rw [this, List.map_append, List.getElem?_append_right (by rw [List.length_map]; exact Nat.le_refl _), List.length_map, Nat.sub_self]
    rfl
  unfold appAt
  dsimp only
  rw [a]
  show (if (g.map sO).length < sLine then some (O.lst true (((A ++ [g]).map gO).set (if (0 : Int) ≤ -1 then (-1 : Int).toNat else (-1 + (((A ++ [g]).map gO).length : Int)).toNat) (.lst true (g.map sO ++ [sO s])))) else none) = _
  rw [if_pos (Nat.lt_of_le_of_lt (show (g.map sO).length ≤ 1000 by rw [List.length_map]; exact h) (by decide)), if_neg (by decide), l]
  have : ((-1 : Int) + ((A.length + 1 : Nat) : Int)).toNat = A.length := by omega
  have e : g.map sO ++ [sO s] = (g ++ [s]).map sO := by rw [List.map_append]; rfl
  rw [this, List.map_append, List.map_append, e]
  exact congrArg (fun z => some (O.lst true z)) (set_last (gO g) (gO (g ++ [s])) (A.map gO) A.length (List.length_map ..).symm)
set_option maxHeartbeats 1000000 in
theorem grp_body (L : List Int) (N : Nat) (hC : Cells (11 * N) L) {k : Nat} (hk : k < N) (hN : N ≤ 100) (A : List (List S3)) (hA : GokD A) (lA : A.length ≤ 1000) (w : Bool) (t4 t5 t6 t7 t8 t1 : Option O) : ∃ (g : List S3) (w' : Bool) (t4' t5' t6' t7' t8' : Option O), GokD (A ++ [g]) ∧
    b1__law_groups [some (.lst false (L.map O.int)), t1, some (.lst true (A.map gO)), some (.int k), t4, t5, t6, t7, t8] = some (.nx [some (.lst false (L.map O.int)), t1, some (.lst true ((A ++ [g]).map gO)), some (.int k), t4', t5', t6', t7', t8']) := by
  obtain ⟨D, hD⟩ : ∃ D, L.drop (11 * k) = D := ⟨_, rfl⟩
  have cD : Cells 11 D := by rw [← hD]; exact (hC.mono (m := 11 + 11 * k) (by omega)).drop _
  have cD5 : Cells 5 (D.drop 5) := (cD.mono (m := 5 + 5) (by omega)).drop _
  obtain ⟨a5, i5, _, l5, u5⟩ := cD.at 5 (by decide) (by decide)
  obtain ⟨a6, i6, _, l6, u6⟩ := cD.at 6 (by decide) (by decide)
  obtain ⟨a10, i10, _, l10, u10⟩ := cD.at 10 (by decide) (by decide)
  have d4 : divOk 4 = true := by decide
  have d13 : divOk 13 = true := by decide
  obtain ⟨a, b, c, hs1, nz1, b1, b2, b3⟩ := side_eq D (cD.mono (by omega)) false
  obtain ⟨a', b', c', hs2, nz2, b4, b5, b6⟩ := side_eq (D.drop 5) cD5 false
  obtain ⟨x, y, p, q, hp, n1, n2, bx, by_, bp, bq, tn⟩ := left_pair_eq false D (cD.mono (by omega)) 3 (by decide) (by decide)
  have e5 := drop_cut D 5
  have e11 := drop_cut L (11 * k)
  rw [hD] at e11
  have e11' : cut (L.map O.int) (some (11 * (k : Int))) none = D.map O.int := by
    rw [← e11]
    congr 2
  rw [show ((5 : Nat) : Int) = 5 from rfl] at e5
  rw [← e5] at hs2
  have fL : frzs (L.map O.int) = L.map O.int := frzs_ints L
  have fD : frzs (D.map O.int) = D.map O.int := frzs_ints D
  have cD' : cleans (D.map O.int) = true := cleans_ints D
  have f5 : frzs (cut (D.map O.int) (some 5) none) = cut (D.map O.int) (some 5) none := by rw [e5]; exact frzs_ints _
  obtain ⟨Ls, hLs⟩ : ∃ Ls, L.map O.int = Ls := ⟨_, rfl⟩
  obtain ⟨Ds, hDs⟩ : ∃ Ls, D.map O.int = Ls := ⟨_, rfl⟩
  rw [hLs] at fL e11' ⊢
  rw [hDs] at e11' fD cD' f5 hs1 hs2 hp i5 i6 i10
  haveI : Sz 1 (k : Int) := sz1 (by omega) (by omega)
  have la : ((A.map gO).length < sLine) = True := lt_line (by rw [List.length_map]; omega)
  have gok : ∀ g : List S3, g.length ≤ 2 → (∀ s ∈ g, SdB 6000000 18000000000 s) → GokD (A ++ [g]) := fun g h1 h2 h hh => by
    rcases List.mem_append.mp hh with z | z
    · exact hA h z
    · rw [List.mem_singleton.mp z]; exact ⟨h1, h2⟩
  have ap : ∀ g : List S3, A.map gO ++ [gO g] = (A ++ [g]).map gO := fun g => by rw [List.map_append]; rfl
  obtain ⟨G, hG⟩ : ∃ G, A.map gO = G := ⟨_, rfl⟩
  have st : sSet [0] 4 (xSl (xV 0) (pI (x2 mulD (xC (.int 11)) (xV 3))) pN) [some (.lst false Ls), t1, some (.lst true G), some (.int k), t4, t5, t6, t7, t8] = some (.nx [some (.lst false Ls), t1, some (.lst true G), some (.int k), some (.lst true Ds), t5, t6, t7, t8]) := by
    simp (config := {decide := true}) only [Dv.get, Dv.xV, Dv.xC, Dv.frz, Dv.frzs, Dv.flat, Dv.flats, Dv.clean, Dv.cleans, Dv.frzSlot, Dv.frz1, Dv.frzAt, Dv.put, Dv.addD, Dv.subD, Dv.mulD, Dv.fdivD, Dv.modD, Dv.negD, Dv.x2, Dv.x1, Dv.xsN, Dv.xsC, Dv.xTup, Dv.xLst, Dv.xCall, Dv.asB, Dv.tOf, Dv.tNot, Dv.tAnd, Dv.tOr, Dv.xB, Dv.xIf, Dv.cmpI, Dv.ltD, Dv.leD, Dv.gtD, Dv.geD, Dv.xAnd, Dv.xOr, Dv.xNot, Dv.sN, Dv.sSeq, Dv.sSet, Dv.sRet, Dv.sRetV, Dv.sIf, Dv.sBk, Dv.sCt, Dv.gN, Dv.gsN, Dv.gsC, Dv.gT, Dv.fnD, Dv.ixD, Dv.slD, Dv.pN, Dv.pI, Dv.xSl, Dv.lenD', Dv.intD, Dv.maxD, Dv.minD, Dv.allD, Dv.anyD, Dv.allB, Dv.listD, Dv.xF, Dv.isiD, Dv.eqD, Dv.neD, Dv.isND, Dv.notND, Dv.isN2, Dv.notN2, Dv.sApp, Dv.itL, Dv.itR1, Dv.itR2, Dv.rngL, Dv.zipL, Dv.zipO, Dv.itZ, Dv.enuL, Dv.enuO, Dv.itEn, Dv.wipeD, Dv.keepD, Dv.tY, Dv.sAsg, Dv.sPar, Dv.sPar3, Dv.sAugI, Dv.sDrop, Dv.at_20, Dv.at_21, Dv.at_30, Dv.at_31, Dv.at_32, Dv.at_40, Dv.at_41, Dv.at_42, Dv.at_43, Dv.at_10, Dv.frzs_ints, Dv.cleans_ints, Dv.le_sLine, Dv.sh_non, Dv.sh_bl, Dv.sh_int, Dv.sh_tup, Dv.sh_lst, Dv.eqo_int, Dv.eqo_bl, Dv.eqo_tup, Dv.eqo_lst, Dv.eqos_nil, Dv.eqos_cons, List.all_cons, List.all_nil, Dv.beq_tt, Dv.beq_ff, Dv.beq_tf, Dv.beq_ft, List.getElem?_cons_zero, List.getElem?_cons_succ, List.getElem?_nil, List.set_cons_zero, List.set_cons_succ, List.set_nil, Option.bind_some, Option.bind_none, Option.map_some, Option.map_none, if_true, if_false, ↓reduceIte, decide_true, decide_false, Bool.false_eq_true, Bool.true_and, Bool.and_true, Bool.false_and, Bool.and_false, Bool.not_true, Bool.not_false, Bool.true_or, Bool.or_true, Bool.false_or, Bool.or_false, List.cons_append, List.nil_append, List.length_cons, List.length_nil, List.map_cons, List.map_nil, List.replicate_succ, List.replicate_zero, Nat.reduceAdd, Nat.reduceSub, Nat.reduceLT, Nat.reduceEqDiff, Nat.reduceLeDiff, Int.reduceAdd, Int.reduceSub, Int.reduceMul, Int.reduceNeg, Int.reduceLT, Int.reduceLE, Int.reduceEq, Int.reduceMod, Int.reduceDiv, Int.reduceToNat, Nat.add_zero, Nat.zero_add, List.contains_cons, List.contains_nil, Nat.reduceBEq, beq_self_eq_true, reduceCtorEq, and_true, true_and, and_false, false_and, not_true_eq_false, not_false_eq_true, Dv.mulOk_sz, fL, e11', cD']
  have c1 : tOf (x2 eqD (x2 modD (x2 ixD (xV 4) (xC (.int 10))) (xC (.int 4))) (xC (.int 1))) [some (.lst false Ls), t1, some (.lst true G), some (.int k), some (.lst true Ds), t5, t6, t7, t8] = some (decide (a10 % 4 = 1)) :=
    tOf_of (x2_of (x := .int (a10 % 4)) (y := .int 1) (by simp (config := {decide := true}) only [Dv.get, Dv.xV, Dv.xC, Dv.frz, Dv.frzs, Dv.flat, Dv.flats, Dv.clean, Dv.cleans, Dv.frzSlot, Dv.frz1, Dv.frzAt, Dv.put, Dv.addD, Dv.subD, Dv.mulD, Dv.fdivD, Dv.modD, Dv.negD, Dv.x2, Dv.x1, Dv.xsN, Dv.xsC, Dv.xTup, Dv.xLst, Dv.xCall, Dv.asB, Dv.tOf, Dv.tNot, Dv.tAnd, Dv.tOr, Dv.xB, Dv.xIf, Dv.cmpI, Dv.ltD, Dv.leD, Dv.gtD, Dv.geD, Dv.xAnd, Dv.xOr, Dv.xNot, Dv.sN, Dv.sSeq, Dv.sSet, Dv.sRet, Dv.sRetV, Dv.sIf, Dv.sBk, Dv.sCt, Dv.gN, Dv.gsN, Dv.gsC, Dv.gT, Dv.fnD, Dv.ixD, Dv.slD, Dv.pN, Dv.pI, Dv.xSl, Dv.lenD', Dv.intD, Dv.maxD, Dv.minD, Dv.allD, Dv.anyD, Dv.allB, Dv.listD, Dv.xF, Dv.isiD, Dv.eqD, Dv.neD, Dv.isND, Dv.notND, Dv.isN2, Dv.notN2, Dv.sApp, Dv.itL, Dv.itR1, Dv.itR2, Dv.rngL, Dv.zipL, Dv.zipO, Dv.itZ, Dv.enuL, Dv.enuO, Dv.itEn, Dv.wipeD, Dv.keepD, Dv.tY, Dv.sAsg, Dv.sPar, Dv.sPar3, Dv.sAugI, Dv.sDrop, Dv.at_20, Dv.at_21, Dv.at_30, Dv.at_31, Dv.at_32, Dv.at_40, Dv.at_41, Dv.at_42, Dv.at_43, Dv.at_10, Dv.frzs_ints, Dv.cleans_ints, Dv.le_sLine, Dv.sh_non, Dv.sh_bl, Dv.sh_int, Dv.sh_tup, Dv.sh_lst, Dv.eqo_int, Dv.eqo_bl, Dv.eqo_tup, Dv.eqo_lst, Dv.eqos_nil, Dv.eqos_cons, List.all_cons, List.all_nil, Dv.beq_tt, Dv.beq_ff, Dv.beq_tf, Dv.beq_ft, List.getElem?_cons_zero, List.getElem?_cons_succ, List.getElem?_nil, List.set_cons_zero, List.set_cons_succ, List.set_nil, Option.bind_some, Option.bind_none, Option.map_some, Option.map_none, if_true, if_false, ↓reduceIte, decide_true, decide_false, Bool.false_eq_true, Bool.true_and, Bool.and_true, Bool.false_and, Bool.and_false, Bool.not_true, Bool.not_false, Bool.true_or, Bool.or_true, Bool.false_or, Bool.or_false, List.cons_append, List.nil_append, List.length_cons, List.length_nil, List.map_cons, List.map_nil, List.replicate_succ, List.replicate_zero, Nat.reduceAdd, Nat.reduceSub, Nat.reduceLT, Nat.reduceEqDiff, Nat.reduceLeDiff, Int.reduceAdd, Int.reduceSub, Int.reduceMul, Int.reduceNeg, Int.reduceLT, Int.reduceLE, Int.reduceEq, Int.reduceMod, Int.reduceDiv, Int.reduceToNat, Nat.add_zero, Nat.zero_add, List.contains_cons, List.contains_nil, Nat.reduceBEq, beq_self_eq_true, reduceCtorEq, and_true, true_and, and_false, false_and, not_true_eq_false, not_false_eq_true, Dv.mulOk_sz, fD, i10, d4]) rfl (eqII _ _))
  have c2 : tOf (x2 eqD (x2 modD (x2 ixD (xV 4) (xC (.int 10))) (xC (.int 4))) (xC (.int 2))) [some (.lst false Ls), t1, some (.lst true G), some (.int k), some (.lst true Ds), t5, t6, t7, t8] = some (decide (a10 % 4 = 2)) :=
    tOf_of (x2_of (x := .int (a10 % 4)) (y := .int 2) (by simp (config := {decide := true}) only [Dv.get, Dv.xV, Dv.xC, Dv.frz, Dv.frzs, Dv.flat, Dv.flats, Dv.clean, Dv.cleans, Dv.frzSlot, Dv.frz1, Dv.frzAt, Dv.put, Dv.addD, Dv.subD, Dv.mulD, Dv.fdivD, Dv.modD, Dv.negD, Dv.x2, Dv.x1, Dv.xsN, Dv.xsC, Dv.xTup, Dv.xLst, Dv.xCall, Dv.asB, Dv.tOf, Dv.tNot, Dv.tAnd, Dv.tOr, Dv.xB, Dv.xIf, Dv.cmpI, Dv.ltD, Dv.leD, Dv.gtD, Dv.geD, Dv.xAnd, Dv.xOr, Dv.xNot, Dv.sN, Dv.sSeq, Dv.sSet, Dv.sRet, Dv.sRetV, Dv.sIf, Dv.sBk, Dv.sCt, Dv.gN, Dv.gsN, Dv.gsC, Dv.gT, Dv.fnD, Dv.ixD, Dv.slD, Dv.pN, Dv.pI, Dv.xSl, Dv.lenD', Dv.intD, Dv.maxD, Dv.minD, Dv.allD, Dv.anyD, Dv.allB, Dv.listD, Dv.xF, Dv.isiD, Dv.eqD, Dv.neD, Dv.isND, Dv.notND, Dv.isN2, Dv.notN2, Dv.sApp, Dv.itL, Dv.itR1, Dv.itR2, Dv.rngL, Dv.zipL, Dv.zipO, Dv.itZ, Dv.enuL, Dv.enuO, Dv.itEn, Dv.wipeD, Dv.keepD, Dv.tY, Dv.sAsg, Dv.sPar, Dv.sPar3, Dv.sAugI, Dv.sDrop, Dv.at_20, Dv.at_21, Dv.at_30, Dv.at_31, Dv.at_32, Dv.at_40, Dv.at_41, Dv.at_42, Dv.at_43, Dv.at_10, Dv.frzs_ints, Dv.cleans_ints, Dv.le_sLine, Dv.sh_non, Dv.sh_bl, Dv.sh_int, Dv.sh_tup, Dv.sh_lst, Dv.eqo_int, Dv.eqo_bl, Dv.eqo_tup, Dv.eqo_lst, Dv.eqos_nil, Dv.eqos_cons, List.all_cons, List.all_nil, Dv.beq_tt, Dv.beq_ff, Dv.beq_tf, Dv.beq_ft, List.getElem?_cons_zero, List.getElem?_cons_succ, List.getElem?_nil, List.set_cons_zero, List.set_cons_succ, List.set_nil, Option.bind_some, Option.bind_none, Option.map_some, Option.map_none, if_true, if_false, ↓reduceIte, decide_true, decide_false, Bool.false_eq_true, Bool.true_and, Bool.and_true, Bool.false_and, Bool.and_false, Bool.not_true, Bool.not_false, Bool.true_or, Bool.or_true, Bool.false_or, Bool.or_false, List.cons_append, List.nil_append, List.length_cons, List.length_nil, List.map_cons, List.map_nil, List.replicate_succ, List.replicate_zero, Nat.reduceAdd, Nat.reduceSub, Nat.reduceLT, Nat.reduceEqDiff, Nat.reduceLeDiff, Int.reduceAdd, Int.reduceSub, Int.reduceMul, Int.reduceNeg, Int.reduceLT, Int.reduceLE, Int.reduceEq, Int.reduceMod, Int.reduceDiv, Int.reduceToNat, Nat.add_zero, Nat.zero_add, List.contains_cons, List.contains_nil, Nat.reduceBEq, beq_self_eq_true, reduceCtorEq, and_true, true_and, and_false, false_and, not_true_eq_false, not_false_eq_true, Dv.mulOk_sz, fD, i10, d4]) rfl (eqII _ _))
  by_cases h1 : a10 % 4 = 1
  · refine ⟨[(a, b, c)], true, some (.lst true Ds), t5, t6, t7, t8, gok _ (by simp) (fun s hs => ?_), ?_⟩
    · rw [List.mem_singleton.mp hs]
      exact sdb_mono (n := 2000000) (m := 1000000000) ⟨b1, b2, b3, nz1⟩ (by decide) (by decide)
    · rw [hG] at la ap ⊢
      rw [← ap]
      unfold b1__law_groups
      refine seq_nx st (if_t (by rw [c1, decide_eq_true h1]) ?_)
      unfold gO sO
      simp (config := {decide := true}) only [Dv.get, Dv.xV, Dv.xC, Dv.frz, Dv.frzs, Dv.flat, Dv.flats, Dv.clean, Dv.cleans, Dv.frzSlot, Dv.frz1, Dv.frzAt, Dv.put, Dv.addD, Dv.subD, Dv.mulD, Dv.fdivD, Dv.modD, Dv.negD, Dv.x2, Dv.x1, Dv.xsN, Dv.xsC, Dv.xTup, Dv.xLst, Dv.xCall, Dv.asB, Dv.tOf, Dv.tNot, Dv.tAnd, Dv.tOr, Dv.xB, Dv.xIf, Dv.cmpI, Dv.ltD, Dv.leD, Dv.gtD, Dv.geD, Dv.xAnd, Dv.xOr, Dv.xNot, Dv.sN, Dv.sSeq, Dv.sSet, Dv.sRet, Dv.sRetV, Dv.sIf, Dv.sBk, Dv.sCt, Dv.gN, Dv.gsN, Dv.gsC, Dv.gT, Dv.fnD, Dv.ixD, Dv.slD, Dv.pN, Dv.pI, Dv.xSl, Dv.lenD', Dv.intD, Dv.maxD, Dv.minD, Dv.allD, Dv.anyD, Dv.allB, Dv.listD, Dv.xF, Dv.isiD, Dv.eqD, Dv.neD, Dv.isND, Dv.notND, Dv.isN2, Dv.notN2, Dv.sApp, Dv.itL, Dv.itR1, Dv.itR2, Dv.rngL, Dv.zipL, Dv.zipO, Dv.itZ, Dv.enuL, Dv.enuO, Dv.itEn, Dv.wipeD, Dv.keepD, Dv.tY, Dv.sAsg, Dv.sPar, Dv.sPar3, Dv.sAugI, Dv.sDrop, Dv.at_20, Dv.at_21, Dv.at_30, Dv.at_31, Dv.at_32, Dv.at_40, Dv.at_41, Dv.at_42, Dv.at_43, Dv.at_10, Dv.frzs_ints, Dv.cleans_ints, Dv.le_sLine, Dv.sh_non, Dv.sh_bl, Dv.sh_int, Dv.sh_tup, Dv.sh_lst, Dv.eqo_int, Dv.eqo_bl, Dv.eqo_tup, Dv.eqo_lst, Dv.eqos_nil, Dv.eqos_cons, List.all_cons, List.all_nil, Dv.beq_tt, Dv.beq_ff, Dv.beq_tf, Dv.beq_ft, List.getElem?_cons_zero, List.getElem?_cons_succ, List.getElem?_nil, List.set_cons_zero, List.set_cons_succ, List.set_nil, Option.bind_some, Option.bind_none, Option.map_some, Option.map_none, if_true, if_false, ↓reduceIte, decide_true, decide_false, Bool.false_eq_true, Bool.true_and, Bool.and_true, Bool.false_and, Bool.and_false, Bool.not_true, Bool.not_false, Bool.true_or, Bool.or_true, Bool.false_or, Bool.or_false, List.cons_append, List.nil_append, List.length_cons, List.length_nil, List.map_cons, List.map_nil, List.replicate_succ, List.replicate_zero, Nat.reduceAdd, Nat.reduceSub, Nat.reduceLT, Nat.reduceEqDiff, Nat.reduceLeDiff, Int.reduceAdd, Int.reduceSub, Int.reduceMul, Int.reduceNeg, Int.reduceLT, Int.reduceLE, Int.reduceEq, Int.reduceMod, Int.reduceDiv, Int.reduceToNat, Nat.add_zero, Nat.zero_add, List.contains_cons, List.contains_nil, Nat.reduceBEq, beq_self_eq_true, reduceCtorEq, and_true, true_and, and_false, false_and, not_true_eq_false, not_false_eq_true, Dv.mulOk_sz, fD, hs1, la]
  have c1' := c1.trans (by rw [decide_eq_false h1])
  by_cases h2 : a10 % 4 = 2
  · refine ⟨[(a, b, c), (a', b', c')], true, some (.lst true Ds), t5, t6, t7, t8, gok _ (by simp) (fun s hs => ?_), ?_⟩
    · simp only [List.mem_cons, List.not_mem_nil, or_false] at hs
      rcases hs with rfl | rfl
      · exact sdb_mono (n := 2000000) (m := 1000000000) ⟨b1, b2, b3, nz1⟩ (by decide) (by decide)
      · exact sdb_mono (n := 2000000) (m := 1000000000) ⟨b4, b5, b6, nz2⟩ (by decide) (by decide)
    · rw [hG] at la ap ⊢
      rw [← ap]
      unfold b1__law_groups
      refine seq_nx st (if_f c1' (if_t (by rw [c2, decide_eq_true h2]) ?_))
      unfold gO sO
      simp (config := {decide := true}) only [Dv.get, Dv.xV, Dv.xC, Dv.frz, Dv.frzs, Dv.flat, Dv.flats, Dv.clean, Dv.cleans, Dv.frzSlot, Dv.frz1, Dv.frzAt, Dv.put, Dv.addD, Dv.subD, Dv.mulD, Dv.fdivD, Dv.modD, Dv.negD, Dv.x2, Dv.x1, Dv.xsN, Dv.xsC, Dv.xTup, Dv.xLst, Dv.xCall, Dv.asB, Dv.tOf, Dv.tNot, Dv.tAnd, Dv.tOr, Dv.xB, Dv.xIf, Dv.cmpI, Dv.ltD, Dv.leD, Dv.gtD, Dv.geD, Dv.xAnd, Dv.xOr, Dv.xNot, Dv.sN, Dv.sSeq, Dv.sSet, Dv.sRet, Dv.sRetV, Dv.sIf, Dv.sBk, Dv.sCt, Dv.gN, Dv.gsN, Dv.gsC, Dv.gT, Dv.fnD, Dv.ixD, Dv.slD, Dv.pN, Dv.pI, Dv.xSl, Dv.lenD', Dv.intD, Dv.maxD, Dv.minD, Dv.allD, Dv.anyD, Dv.allB, Dv.listD, Dv.xF, Dv.isiD, Dv.eqD, Dv.neD, Dv.isND, Dv.notND, Dv.isN2, Dv.notN2, Dv.sApp, Dv.itL, Dv.itR1, Dv.itR2, Dv.rngL, Dv.zipL, Dv.zipO, Dv.itZ, Dv.enuL, Dv.enuO, Dv.itEn, Dv.wipeD, Dv.keepD, Dv.tY, Dv.sAsg, Dv.sPar, Dv.sPar3, Dv.sAugI, Dv.sDrop, Dv.at_20, Dv.at_21, Dv.at_30, Dv.at_31, Dv.at_32, Dv.at_40, Dv.at_41, Dv.at_42, Dv.at_43, Dv.at_10, Dv.frzs_ints, Dv.cleans_ints, Dv.le_sLine, Dv.sh_non, Dv.sh_bl, Dv.sh_int, Dv.sh_tup, Dv.sh_lst, Dv.eqo_int, Dv.eqo_bl, Dv.eqo_tup, Dv.eqo_lst, Dv.eqos_nil, Dv.eqos_cons, List.all_cons, List.all_nil, Dv.beq_tt, Dv.beq_ff, Dv.beq_tf, Dv.beq_ft, List.getElem?_cons_zero, List.getElem?_cons_succ, List.getElem?_nil, List.set_cons_zero, List.set_cons_succ, List.set_nil, Option.bind_some, Option.bind_none, Option.map_some, Option.map_none, if_true, if_false, ↓reduceIte, decide_true, decide_false, Bool.false_eq_true, Bool.true_and, Bool.and_true, Bool.false_and, Bool.and_false, Bool.not_true, Bool.not_false, Bool.true_or, Bool.or_true, Bool.false_or, Bool.or_false, List.cons_append, List.nil_append, List.length_cons, List.length_nil, List.map_cons, List.map_nil, List.replicate_succ, List.replicate_zero, Nat.reduceAdd, Nat.reduceSub, Nat.reduceLT, Nat.reduceEqDiff, Nat.reduceLeDiff, Int.reduceAdd, Int.reduceSub, Int.reduceMul, Int.reduceNeg, Int.reduceLT, Int.reduceLE, Int.reduceEq, Int.reduceMod, Int.reduceDiv, Int.reduceToNat, Nat.add_zero, Nat.zero_add, List.contains_cons, List.contains_nil, Nat.reduceBEq, beq_self_eq_true, reduceCtorEq, and_true, true_and, and_false, false_and, not_true_eq_false, not_false_eq_true, Dv.mulOk_sz, fD, f5, hs1, hs2, la]
  have c2' := c2.trans (by rw [decide_eq_false h2])
  obtain ⟨X, hX⟩ : ∃ X, a5 % 13 - 6 = X := ⟨_, rfl⟩
  obtain ⟨Y, hY⟩ : ∃ X, a6 % 13 - 6 = X := ⟨_, rfl⟩
  have bX : -6 ≤ X ∧ X ≤ 6 := by omega
  have bY : -6 ≤ Y ∧ Y ≤ 6 := by omega
  haveI : Sz 1 x := sz1 (by omega) (by omega)
  haveI : Sz 1 y := sz1 (by omega) (by omega)
  haveI : Sz 1 p := sz1 (by omega) (by omega)
  haveI : Sz 1 q := sz1 (by omega) (by omega)
  haveI : Sz 1 X := sz1 (by omega) (by omega)
  haveI : Sz 1 Y := sz1 (by omega) (by omega)
  have mb : ∀ u v : Int, -3 ≤ u ∧ u ≤ 3 → -6 ≤ v ∧ v ≤ 6 → -18 ≤ u * v ∧ u * v ≤ 18 := fun u v hu hv => by
    have h1 := Nat.mul_le_mul (show u.natAbs ≤ 3 by omega) (show v.natAbs ≤ 6 by omega)
    rw [← Int.natAbs_mul] at h1
    omega
  have m1 := mb x Y bx bY
  have m2 := mb y X by_ bX
  have m3 := mb q X bq bX
  have m4 := mb p Y bp bY
  refine ⟨[(-y, x, x * Y - y * X), (q, -p, q * X - p * Y)], true, some (.lst true Ds), some (.tup [.int x, .int y]), some (.tup [.int p, .int q]), some (.int X), some (.int Y), gok _ (by simp) (fun s hs => ?_), ?_⟩
  · simp only [List.mem_cons, List.not_mem_nil, or_false] at hs
    rcases hs with rfl | rfl
    · exact ⟨by unfold Bd; simp only; omega, by unfold Bd; simp only; omega, by unfold Bd; simp only; omega, by simp only; omega⟩
    · exact ⟨by unfold Bd; simp only; omega, by unfold Bd; simp only; omega, by unfold Bd; simp only; omega, by simp only; omega⟩
  · have al := appAt_last (o := .non) (A := A) (g := [(-y, x, x * Y - y * X)]) (s := (q, -p, q * X - p * Y)) (by simp)
    have gr : (A ++ [[(-y, x, x * Y - y * X), (q, -p, q * X - p * Y)]]).map gO = (A ++ [[(-y, x, x * Y - y * X)] ++ [(q, -p, q * X - p * Y)]]).map gO := rfl
    rw [gr]
    have ap1 := ap [(-y, x, x * Y - y * X)]
    rw [← ap1] at al
    rw [hG] at la al ⊢
    obtain ⟨R, hR⟩ : ∃ R, (A ++ [[(-y, x, x * Y - y * X)] ++ [(q, -p, q * X - p * Y)]]).map gO = R := ⟨_, rfl⟩
    rw [hR] at al ⊢
    unfold gO sO at al
    unfold b1__law_groups
    refine seq_nx st (if_f c1' (if_f c2' ?_))
    refine seq_nx (τ' := [some (.lst false Ls), t1, some (.lst true G), some (.int k), some (.lst true Ds), some (.tup [.int x, .int y]), some (.tup [.int p, .int q]), t7, t8]) (by simp (config := {decide := true}) only [Dv.get, Dv.xV, Dv.xC, Dv.frz, Dv.frzs, Dv.flat, Dv.flats, Dv.clean, Dv.cleans, Dv.frzSlot, Dv.frz1, Dv.frzAt, Dv.put, Dv.addD, Dv.subD, Dv.mulD, Dv.fdivD, Dv.modD, Dv.negD, Dv.x2, Dv.x1, Dv.xsN, Dv.xsC, Dv.xTup, Dv.xLst, Dv.xCall, Dv.asB, Dv.tOf, Dv.tNot, Dv.tAnd, Dv.tOr, Dv.xB, Dv.xIf, Dv.cmpI, Dv.ltD, Dv.leD, Dv.gtD, Dv.geD, Dv.xAnd, Dv.xOr, Dv.xNot, Dv.sN, Dv.sSeq, Dv.sSet, Dv.sRet, Dv.sRetV, Dv.sIf, Dv.sBk, Dv.sCt, Dv.gN, Dv.gsN, Dv.gsC, Dv.gT, Dv.fnD, Dv.ixD, Dv.slD, Dv.pN, Dv.pI, Dv.xSl, Dv.lenD', Dv.intD, Dv.maxD, Dv.minD, Dv.allD, Dv.anyD, Dv.allB, Dv.listD, Dv.xF, Dv.isiD, Dv.eqD, Dv.neD, Dv.isND, Dv.notND, Dv.isN2, Dv.notN2, Dv.sApp, Dv.itL, Dv.itR1, Dv.itR2, Dv.rngL, Dv.zipL, Dv.zipO, Dv.itZ, Dv.enuL, Dv.enuO, Dv.itEn, Dv.wipeD, Dv.keepD, Dv.tY, Dv.sAsg, Dv.sPar, Dv.sPar3, Dv.sAugI, Dv.sDrop, Dv.at_20, Dv.at_21, Dv.at_30, Dv.at_31, Dv.at_32, Dv.at_40, Dv.at_41, Dv.at_42, Dv.at_43, Dv.at_10, Dv.frzs_ints, Dv.cleans_ints, Dv.le_sLine, Dv.sh_non, Dv.sh_bl, Dv.sh_int, Dv.sh_tup, Dv.sh_lst, Dv.eqo_int, Dv.eqo_bl, Dv.eqo_tup, Dv.eqo_lst, Dv.eqos_nil, Dv.eqos_cons, List.all_cons, List.all_nil, Dv.beq_tt, Dv.beq_ff, Dv.beq_tf, Dv.beq_ft, List.getElem?_cons_zero, List.getElem?_cons_succ, List.getElem?_nil, List.set_cons_zero, List.set_cons_succ, List.set_nil, Option.bind_some, Option.bind_none, Option.map_some, Option.map_none, if_true, if_false, ↓reduceIte, decide_true, decide_false, Bool.false_eq_true, Bool.true_and, Bool.and_true, Bool.false_and, Bool.and_false, Bool.not_true, Bool.not_false, Bool.true_or, Bool.or_true, Bool.false_or, Bool.or_false, List.cons_append, List.nil_append, List.length_cons, List.length_nil, List.map_cons, List.map_nil, List.replicate_succ, List.replicate_zero, Nat.reduceAdd, Nat.reduceSub, Nat.reduceLT, Nat.reduceEqDiff, Nat.reduceLeDiff, Int.reduceAdd, Int.reduceSub, Int.reduceMul, Int.reduceNeg, Int.reduceLT, Int.reduceLE, Int.reduceEq, Int.reduceMod, Int.reduceDiv, Int.reduceToNat, Nat.add_zero, Nat.zero_add, List.contains_cons, List.contains_nil, Nat.reduceBEq, beq_self_eq_true, reduceCtorEq, and_true, true_and, and_false, false_and, not_true_eq_false, not_false_eq_true, Dv.mulOk_sz, fD, hp]) ?_
    refine seq_nx (τ' := [some (.lst false Ls), t1, some (.lst true G), some (.int k), some (.lst true Ds), some (.tup [.int x, .int y]), some (.tup [.int p, .int q]), some (.int X), some (.int Y)]) (by simp (config := {decide := true}) only [Dv.get, Dv.xV, Dv.xC, Dv.frz, Dv.frzs, Dv.flat, Dv.flats, Dv.clean, Dv.cleans, Dv.frzSlot, Dv.frz1, Dv.frzAt, Dv.put, Dv.addD, Dv.subD, Dv.mulD, Dv.fdivD, Dv.modD, Dv.negD, Dv.x2, Dv.x1, Dv.xsN, Dv.xsC, Dv.xTup, Dv.xLst, Dv.xCall, Dv.asB, Dv.tOf, Dv.tNot, Dv.tAnd, Dv.tOr, Dv.xB, Dv.xIf, Dv.cmpI, Dv.ltD, Dv.leD, Dv.gtD, Dv.geD, Dv.xAnd, Dv.xOr, Dv.xNot, Dv.sN, Dv.sSeq, Dv.sSet, Dv.sRet, Dv.sRetV, Dv.sIf, Dv.sBk, Dv.sCt, Dv.gN, Dv.gsN, Dv.gsC, Dv.gT, Dv.fnD, Dv.ixD, Dv.slD, Dv.pN, Dv.pI, Dv.xSl, Dv.lenD', Dv.intD, Dv.maxD, Dv.minD, Dv.allD, Dv.anyD, Dv.allB, Dv.listD, Dv.xF, Dv.isiD, Dv.eqD, Dv.neD, Dv.isND, Dv.notND, Dv.isN2, Dv.notN2, Dv.sApp, Dv.itL, Dv.itR1, Dv.itR2, Dv.rngL, Dv.zipL, Dv.zipO, Dv.itZ, Dv.enuL, Dv.enuO, Dv.itEn, Dv.wipeD, Dv.keepD, Dv.tY, Dv.sAsg, Dv.sPar, Dv.sPar3, Dv.sAugI, Dv.sDrop, Dv.at_20, Dv.at_21, Dv.at_30, Dv.at_31, Dv.at_32, Dv.at_40, Dv.at_41, Dv.at_42, Dv.at_43, Dv.at_10, Dv.frzs_ints, Dv.cleans_ints, Dv.le_sLine, Dv.sh_non, Dv.sh_bl, Dv.sh_int, Dv.sh_tup, Dv.sh_lst, Dv.eqo_int, Dv.eqo_bl, Dv.eqo_tup, Dv.eqo_lst, Dv.eqos_nil, Dv.eqos_cons, List.all_cons, List.all_nil, Dv.beq_tt, Dv.beq_ff, Dv.beq_tf, Dv.beq_ft, List.getElem?_cons_zero, List.getElem?_cons_succ, List.getElem?_nil, List.set_cons_zero, List.set_cons_succ, List.set_nil, Option.bind_some, Option.bind_none, Option.map_some, Option.map_none, if_true, if_false, ↓reduceIte, decide_true, decide_false, Bool.false_eq_true, Bool.true_and, Bool.and_true, Bool.false_and, Bool.and_false, Bool.not_true, Bool.not_false, Bool.true_or, Bool.or_true, Bool.false_or, Bool.or_false, List.cons_append, List.nil_append, List.length_cons, List.length_nil, List.map_cons, List.map_nil, List.replicate_succ, List.replicate_zero, Nat.reduceAdd, Nat.reduceSub, Nat.reduceLT, Nat.reduceEqDiff, Nat.reduceLeDiff, Int.reduceAdd, Int.reduceSub, Int.reduceMul, Int.reduceNeg, Int.reduceLT, Int.reduceLE, Int.reduceEq, Int.reduceMod, Int.reduceDiv, Int.reduceToNat, Nat.add_zero, Nat.zero_add, List.contains_cons, List.contains_nil, Nat.reduceBEq, beq_self_eq_true, reduceCtorEq, and_true, true_and, and_false, false_and, not_true_eq_false, not_false_eq_true, Dv.mulOk_sz, fD, i5, i6, d13, hX, hY]) ?_
    refine seq_nx (τ' := [some (.lst false Ls), t1, some (.lst true (G ++ [.lst true [.tup [.int (-y), .int x, .int (x * Y - y * X)]]])), some (.int k), some (.lst true Ds), some (.tup [.int x, .int y]), some (.tup [.int p, .int q]), some (.int X), some (.int Y)]) (by simp (config := {decide := true}) only [Dv.get, Dv.xV, Dv.xC, Dv.frz, Dv.frzs, Dv.flat, Dv.flats, Dv.clean, Dv.cleans, Dv.frzSlot, Dv.frz1, Dv.frzAt, Dv.put, Dv.addD, Dv.subD, Dv.mulD, Dv.fdivD, Dv.modD, Dv.negD, Dv.x2, Dv.x1, Dv.xsN, Dv.xsC, Dv.xTup, Dv.xLst, Dv.xCall, Dv.asB, Dv.tOf, Dv.tNot, Dv.tAnd, Dv.tOr, Dv.xB, Dv.xIf, Dv.cmpI, Dv.ltD, Dv.leD, Dv.gtD, Dv.geD, Dv.xAnd, Dv.xOr, Dv.xNot, Dv.sN, Dv.sSeq, Dv.sSet, Dv.sRet, Dv.sRetV, Dv.sIf, Dv.sBk, Dv.sCt, Dv.gN, Dv.gsN, Dv.gsC, Dv.gT, Dv.fnD, Dv.ixD, Dv.slD, Dv.pN, Dv.pI, Dv.xSl, Dv.lenD', Dv.intD, Dv.maxD, Dv.minD, Dv.allD, Dv.anyD, Dv.allB, Dv.listD, Dv.xF, Dv.isiD, Dv.eqD, Dv.neD, Dv.isND, Dv.notND, Dv.isN2, Dv.notN2, Dv.sApp, Dv.itL, Dv.itR1, Dv.itR2, Dv.rngL, Dv.zipL, Dv.zipO, Dv.itZ, Dv.enuL, Dv.enuO, Dv.itEn, Dv.wipeD, Dv.keepD, Dv.tY, Dv.sAsg, Dv.sPar, Dv.sPar3, Dv.sAugI, Dv.sDrop, Dv.at_20, Dv.at_21, Dv.at_30, Dv.at_31, Dv.at_32, Dv.at_40, Dv.at_41, Dv.at_42, Dv.at_43, Dv.at_10, Dv.frzs_ints, Dv.cleans_ints, Dv.le_sLine, Dv.sh_non, Dv.sh_bl, Dv.sh_int, Dv.sh_tup, Dv.sh_lst, Dv.eqo_int, Dv.eqo_bl, Dv.eqo_tup, Dv.eqo_lst, Dv.eqos_nil, Dv.eqos_cons, List.all_cons, List.all_nil, Dv.beq_tt, Dv.beq_ff, Dv.beq_tf, Dv.beq_ft, List.getElem?_cons_zero, List.getElem?_cons_succ, List.getElem?_nil, List.set_cons_zero, List.set_cons_succ, List.set_nil, Option.bind_some, Option.bind_none, Option.map_some, Option.map_none, if_true, if_false, ↓reduceIte, decide_true, decide_false, Bool.false_eq_true, Bool.true_and, Bool.and_true, Bool.false_and, Bool.and_false, Bool.not_true, Bool.not_false, Bool.true_or, Bool.or_true, Bool.false_or, Bool.or_false, List.cons_append, List.nil_append, List.length_cons, List.length_nil, List.map_cons, List.map_nil, List.replicate_succ, List.replicate_zero, Nat.reduceAdd, Nat.reduceSub, Nat.reduceLT, Nat.reduceEqDiff, Nat.reduceLeDiff, Int.reduceAdd, Int.reduceSub, Int.reduceMul, Int.reduceNeg, Int.reduceLT, Int.reduceLE, Int.reduceEq, Int.reduceMod, Int.reduceDiv, Int.reduceToNat, Nat.add_zero, Nat.zero_add, List.contains_cons, List.contains_nil, Nat.reduceBEq, beq_self_eq_true, reduceCtorEq, and_true, true_and, and_false, false_and, not_true_eq_false, not_false_eq_true, Dv.mulOk_sz, la]) ?_
    have ev : xTup (xsC (x2 ixD (xV 6) (xC (.int 1))) (xsC (x1 negD (x2 ixD (xV 6) (xC (.int 0)))) (xsC (x2 subD (x2 mulD (x2 ixD (xV 6) (xC (.int 1))) (xV 7)) (x2 mulD (x2 ixD (xV 6) (xC (.int 0))) (xV 8))) (xsN)))) [some (.lst false Ls), t1, some (.lst true (G ++ [.lst true [.tup [.int (-y), .int x, .int (x * Y - y * X)]]])), some (.int k), some (.lst true Ds), some (.tup [.int x, .int y]), some (.tup [.int p, .int q]), some (.int X), some (.int Y)] = some (.tup [.int q, .int (-p), .int (q * X - p * Y)]) := by simp (config := {decide := true}) only [Dv.get, Dv.xV, Dv.xC, Dv.frz, Dv.frzs, Dv.flat, Dv.flats, Dv.clean, Dv.cleans, Dv.frzSlot, Dv.frz1, Dv.frzAt, Dv.put, Dv.addD, Dv.subD, Dv.mulD, Dv.fdivD, Dv.modD, Dv.negD, Dv.x2, Dv.x1, Dv.xsN, Dv.xsC, Dv.xTup, Dv.xLst, Dv.xCall, Dv.asB, Dv.tOf, Dv.tNot, Dv.tAnd, Dv.tOr, Dv.xB, Dv.xIf, Dv.cmpI, Dv.ltD, Dv.leD, Dv.gtD, Dv.geD, Dv.xAnd, Dv.xOr, Dv.xNot, Dv.sN, Dv.sSeq, Dv.sSet, Dv.sRet, Dv.sRetV, Dv.sIf, Dv.sBk, Dv.sCt, Dv.gN, Dv.gsN, Dv.gsC, Dv.gT, Dv.fnD, Dv.ixD, Dv.slD, Dv.pN, Dv.pI, Dv.xSl, Dv.lenD', Dv.intD, Dv.maxD, Dv.minD, Dv.allD, Dv.anyD, Dv.allB, Dv.listD, Dv.xF, Dv.isiD, Dv.eqD, Dv.neD, Dv.isND, Dv.notND, Dv.isN2, Dv.notN2, Dv.sApp, Dv.itL, Dv.itR1, Dv.itR2, Dv.rngL, Dv.zipL, Dv.zipO, Dv.itZ, Dv.enuL, Dv.enuO, Dv.itEn, Dv.wipeD, Dv.keepD, Dv.tY, Dv.sAsg, Dv.sPar, Dv.sPar3, Dv.sAugI, Dv.sDrop, Dv.at_20, Dv.at_21, Dv.at_30, Dv.at_31, Dv.at_32, Dv.at_40, Dv.at_41, Dv.at_42, Dv.at_43, Dv.at_10, Dv.frzs_ints, Dv.cleans_ints, Dv.le_sLine, Dv.sh_non, Dv.sh_bl, Dv.sh_int, Dv.sh_tup, Dv.sh_lst, Dv.eqo_int, Dv.eqo_bl, Dv.eqo_tup, Dv.eqo_lst, Dv.eqos_nil, Dv.eqos_cons, List.all_cons, List.all_nil, Dv.beq_tt, Dv.beq_ff, Dv.beq_tf, Dv.beq_ft, List.getElem?_cons_zero, List.getElem?_cons_succ, List.getElem?_nil, List.set_cons_zero, List.set_cons_succ, List.set_nil, Option.bind_some, Option.bind_none, Option.map_some, Option.map_none, if_true, if_false, ↓reduceIte, decide_true, decide_false, Bool.false_eq_true, Bool.true_and, Bool.and_true, Bool.false_and, Bool.and_false, Bool.not_true, Bool.not_false, Bool.true_or, Bool.or_true, Bool.false_or, Bool.or_false, List.cons_append, List.nil_append, List.length_cons, List.length_nil, List.map_cons, List.map_nil, List.replicate_succ, List.replicate_zero, Nat.reduceAdd, Nat.reduceSub, Nat.reduceLT, Nat.reduceEqDiff, Nat.reduceLeDiff, Int.reduceAdd, Int.reduceSub, Int.reduceMul, Int.reduceNeg, Int.reduceLT, Int.reduceLE, Int.reduceEq, Int.reduceMod, Int.reduceDiv, Int.reduceToNat, Nat.add_zero, Nat.zero_add, List.contains_cons, List.contains_nil, Nat.reduceBEq, beq_self_eq_true, reduceCtorEq, and_true, true_and, and_false, false_and, not_true_eq_false, not_false_eq_true, Dv.mulOk_sz, ]
    unfold sAppAt
    rw [show x1 negD (xC (.int 1)) [some (.lst false Ls), t1, some (.lst true (G ++ [.lst true [.tup [.int (-y), .int x, .int (x * Y - y * X)]]])), some (.int k), some (.lst true Ds), some (.tup [.int x, .int y]), some (.tup [.int p, .int q]), some (.int X), some (.int Y)] = some (.int (-1)) from rfl, Option.bind_some, ev, Option.bind_some]
    show (if true = true then (appAt (-1) (.tup [.int q, .int (-p), .int (q * X - p * Y)]) (.lst true (G ++ [.lst true [.tup [.int (-y), .int x, .int (x * Y - y * X)]]]))).bind _ else none) = _
    rw [if_pos rfl]
    have al' : appAt (-1) (.tup [.int q, .int (-p), .int (q * X - p * Y)]) (.lst true (G ++ [.lst true [.tup [.int (-y), .int x, .int (x * Y - y * X)]]])) = some (.lst true R) := al
    rw [al']
    rfl
theorem groups_eq' (o : Bool) (L : List Int) (m : Nat) (hm : m ≤ 40) (hC : Cells (11 * m) L) (hC3 : Cells 3 L) : ∃ G : List (List S3), f__law_groups [.lst o (L.map O.int), .int m] = some (.lst true (G.map gO)) ∧ Gok G ∧ G.length = m := by
  suffices H : ∃ G : List (List S3), f__law_groups [.lst o (L.map O.int), .int m] = some (.lst true (G.map gO)) ∧ GokD G ∧ G.length = m by
    obtain ⟨G, h1, h2, h3⟩ := H
    exact ⟨G, h1, fun g hg => ⟨(h2 g hg).1, fun s hs => ⟨((h2 g hg).2 s hs).bk, ((h2 g hg).2 s hs).2.2.2⟩⟩, h3⟩
  obtain ⟨a0, i0, _, l0, u0⟩ := hC3.at 0 (by decide) (by decide)
  obtain ⟨a1, i1, _, l1, u1⟩ := hC3.at 1 (by decide) (by decide)
  obtain ⟨a2, i2, _, l2, u2⟩ := hC3.at 2 (by decide) (by decide)
  have d5 : divOk 5 = true := by decide
  unfold f__law_groups s__law_groups
  suffices H : ∃ G : List (List S3), GokD G ∧ G.length = m ∧ (sSeq (sSet [] 2 (xLst (xsN)))
  (sSeq (sFor [] (itR1 (xV 1)) (gN 3) (b1__law_groups))
  (sSeq (sIf (Dv.tAnd (tOf (x2 gtD (xV 1) (xC (.int 1)))) (tOf (x2 eqD (x2 modD (x2 ixD (xV 0) (xC (.int 0))) (xC (.int 5))) (xC (.int 1))))) (sSetIxC 2 (x2 modD (x2 ixD (xV 0) (xC (.int 1))) (xV 1)) (xF listE (xsC (x2 ixD (xV 2) (x2 modD (x2 ixD (xV 0) (xC (.int 2))) (xV 1))) (xsN)))) (sN))
  (sRetV 2)))) [some (.lst false (L.map O.int)), some (.int m), none, none, none, none, none, none, none] = some (.rt (.lst true (G.map gO))) by
    obtain ⟨G, h1, h2, h3⟩ := H
    exact ⟨G, fnD_of (τ := [some (.lst false (L.map O.int)), some (.int m), none, none, none, none, none, none, none]) rfl (by show [some (frz (O.lst o (L.map O.int))), some (.int m), none, none, none, none, none, none, none] = _; rw [enc_lfr]) h3, h1, h2⟩
  obtain ⟨τ', h1, A, t3, t4, t5, t6, t7, t8, rfl, q1, q2⟩ := forD_rng (g := gN 3) (b := b1__law_groups) (fun n τ => ∃ (A : List (List S3)) (t3 t4 t5 t6 t7 t8 : Option O), τ = [some (.lst false (L.map O.int)), some (.int m), some (.lst true (A.map gO)), t3, t4, t5, t6, t7, t8] ∧ GokD A ∧ A.length = n) (N := m) (τ := [some (.lst false (L.map O.int)), some (.int m), some (.lst true []), none, none, none, none, none, none]) (fun n τ hn q => by
    obtain ⟨A, t3, t4, t5, t6, t7, t8, rfl, q1, q2⟩ := q
    obtain ⟨g, w', u4, u5, u6, u7, u8, r1, r2⟩ := grp_body L m (hC.mono (by omega)) hn (by omega) A q1 (by omega) true t4 t5 t6 t7 t8 (some (.int m))
    exact ⟨_, _, rfl, r2, A ++ [g], some (.int n), u4, u5, u6, u7, u8, rfl, r1, by rw [List.length_append, q2]; rfl⟩) ⟨[], none, none, none, none, none, none, rfl, (fun g h => nomatch h), rfl⟩
  have lp : sFor [] (itR1 (xV 1)) (gN 3) (b1__law_groups) [some (.lst false (L.map O.int)), some (.int m), some (.lst true []), none, none, none, none, none, none] = some (.nx [some (.lst false (L.map O.int)), some (.int m), some (.lst true (A.map gO)), t3, t4, t5, t6, t7, t8]) :=
    (for_R1 (n := m) rfl (by omega) rfl).trans h1
  have x0 : xV 0 [some (.lst false (L.map O.int)), some (.int m), some (.lst true (A.map gO)), t3, t4, t5, t6, t7, t8] = some (.lst false (L.map O.int)) := enc_xV rfl
  have cond : Dv.tAnd (tOf (x2 gtD (xV 1) (xC (.int 1)))) (tOf (x2 eqD (x2 modD (x2 ixD (xV 0) (xC (.int 0))) (xC (.int 5))) (xC (.int 1)))) [some (.lst false (L.map O.int)), some (.int m), some (.lst true (A.map gO)), t3, t4, t5, t6, t7, t8] = some (decide ((1 : Int) < m) && decide (a0 % 5 = 1)) :=
    tAnd_of rfl fun _ => tOf_of (x2_of (x := .int (a0 % 5)) (y := .int 1) (x2_of (x := .int a0) (y := .int 5) (x2_of x0 (y := .int 0) rfl i0) rfl rfl) rfl (eqII _ _))
  by_cases h : 1 < m ∧ a0 % 5 = 1
  · have lm : 0 < m := by omega
    obtain ⟨i, hi⟩ : ∃ n : Nat, a1 % (m : Int) = n := ⟨(a1 % (m : Int)).toNat, by have := Int.emod_nonneg a1 (show (m : Int) ≠ 0 by omega); omega⟩
    obtain ⟨j, hj⟩ : ∃ n : Nat, a2 % (m : Int) = n := ⟨(a2 % (m : Int)).toNat, by have := Int.emod_nonneg a2 (show (m : Int) ≠ 0 by omega); omega⟩
    have ir : i < m := by have := Int.emod_lt_of_pos a1 (show 0 < (m : Int) by omega); omega
    have jr : j < m := by have := Int.emod_lt_of_pos a2 (show 0 < (m : Int) by omega); omega
    obtain ⟨g, hg⟩ : ∃ g, A[j]? = some g := ⟨_, List.getElem?_eq_getElem (by omega)⟩
    refine ⟨A.set i g, fun h hh => ?_, by rw [List.length_set, q2], seq_nx rfl (seq_nx lp (seq_nx (τ' := [some (.lst false (L.map O.int)), some (.int m), some (.lst true ((A.set i g).map gO)), t3, t4, t5, t6, t7, t8]) (if_t ?_ ?_) rfl))⟩
    · rcases List.mem_or_eq_of_mem_set hh with z | z
      · exact q1 h z
      · rw [z]; exact q1 g (List.mem_of_getElem? hg)
    · rw [cond, decide_eq_true (show (1 : Int) < m by omega), decide_eq_true h.2]; rfl
    · have md : ∀ {a b : Int}, modD (.int a) (.int m) = some (.int (a % m)) := fun {a b} => if_pos (show (0 : Int) < m by omega)
      have ex : x2 ixD (xV 2) (x2 modD (x2 ixD (xV 0) (xC (.int 2))) (xV 1)) [some (.lst false (L.map O.int)), some (.int m), some (.lst true (A.map gO)), t3, t4, t5, t6, t7, t8] = some (gF g) := by
        refine x2_of (x := .lst false (A.map gF)) (y := .int j) (show some (frz (.lst true (A.map gO))) = _ by rw [gl_frz]) (x2_of (x := .int a2) (y := .int m) (x2_of x0 (y := .int 2) rfl i2) rfl (by rw [← hj]; exact md (b := 0))) ?_
        exact at_nat (by rw [List.getElem?_map, hg]; rfl)
      have el : xF listE (xsC (x2 ixD (xV 2) (x2 modD (x2 ixD (xV 0) (xC (.int 2))) (xV 1))) (xsN)) [some (.lst false (L.map O.int)), some (.int m), some (.lst true (A.map gO)), t3, t4, t5, t6, t7, t8] = some (gO g) := xF_g (xs1 ex) (enc_lst false g)
      have ei : x2 modD (x2 ixD (xV 0) (xC (.int 1))) (xV 1) [some (.lst false (L.map O.int)), some (.int m), some (.lst true (A.map gO)), t3, t4, t5, t6, t7, t8] = some (.int i) := x2_of (x := .int a1) (y := .int m) (x2_of x0 (y := .int 1) rfl i1) rfl (by rw [← hi]; exact md (b := 0))
      unfold sSetIxC
      rw [el, Option.bind_some, ei, Option.bind_some]
      show (if clean (gO g) = true ∧ (0 : Int) ≤ i ∧ (i : Int).toNat < (A.map gO).length then some (Fl.nx _) else none) = _
      rw [if_pos ⟨enc_lcl g, by omega, by rw [List.length_map, Int.toNat_natCast]; omega⟩, Int.toNat_natCast, List.map_set]
      rfl
  · refine ⟨A, q1, q2, seq_nx rfl (seq_nx lp (seq_nx (if_f ?_ rfl) rfl))⟩
    rw [cond]
    by_cases z : 1 < m
    · rw [decide_eq_false (fun e => h ⟨z, e⟩), Bool.and_false]
    · rw [decide_eq_false (show ¬ (1 : Int) < m by omega)]; rfl
end Sm
end
section
set_option Elab.async false
set_option linter.all false
set_option maxRecDepth 100000
/-! what a place doubts; the places that are tried -/
namespace Sm
open Dv
/-- the numbers of the groups that do not hold a place -/
def dbt (p : S3) : Nat → List (List S3) → List Int
  | _, [] => []
  | i, g :: G => if g.all (holdB p) then dbt p (i + 1) G else (i : Int) :: dbt p (i + 1) G
theorem dbt_len (p : S3) : ∀ (i : Nat) (G : List (List S3)), (dbt p i G).length ≤ G.length
  | _, [] => Nat.le_refl _
  | i, g :: G => by
    have := dbt_len p (i + 1) G
    unfold dbt
    split
    · rw [List.length_cons]; omega
    · rw [List.length_cons, List.length_cons]; omega
theorem lcD_dbt {g : TGd} {t : ST} {e : SE} {τ : Sl} {p : S3} : ∀ (G : List (List S3)) (i : Nat), (∀ h ∈ G, ∀ j : Nat, ∃ τ1, g (.tup [.int j, gF h]) τ = some τ1 ∧ t τ1 = some (!h.all (holdB p)) ∧ e τ1 = some (.int j)) → lcD g t e (enuL i (G.map gF)) τ = some ((dbt p i G).map O.int)
  | [], _, _ => rfl
  | h :: G, i, H => by
    obtain ⟨τ1, h1, h2, h3⟩ := H h List.mem_cons_self i
    have ih := lcD_dbt G (i + 1) fun k hk => H k (List.mem_cons_of_mem _ hk)
    show lcD g t e (.tup [.int i, gF h] :: enuL (i + 1) (G.map gF)) τ = _
    unfold lcD dbt
    rw [h1, Option.bind_some, h2, Option.bind_some]
    cases c : h.all (holdB p) with
    | true => exact ih
    | false =>
      show (if true = true then _ else _) = _
      rw [if_pos rfl, h3, Option.bind_some, ih]
      rfl
theorem enu_frz : ∀ (G : List (List S3)) (i : Nat), frzs (enuL i (G.map gF)) = enuL i (G.map gF)
  | [], _ => rfl
  | g :: G, i => by
    show frz (.tup [.int i, gF g]) :: frzs (enuL (i + 1) (G.map gF)) = _
    rw [enu_frz G (i + 1)]
    show O.tup [.int i, frz (gF g)] :: _ = _
    rw [frz_gF]; rfl
theorem enu_len : ∀ (xs : List O) (i : Nat), (enuL i xs).length = xs.length
  | [], _ => rfl
  | x :: xs, i => by show (enuL (i + 1) xs).length + 1 = _; rw [enu_len xs]; rfl
section
variable {G : List (List S3)} (hG : Gok G) (lG : G.length ≤ 40)
include hG lG
theorem gk8 {g : List S3} (h : g ∈ G) : ∀ s ∈ g, Bk 8 s := fun s hs => ((hG g h).2 s hs).1.mono (by decide)
theorem doubted_eq (o : Bool) {p : S3} (hp : Bk 17 p) : f_doubted [.lst o (G.map gF), sO p] = some (.lst true ((dbt p 0 G).map O.int)) := by
  unfold f_doubted s_doubted
  refine fnD_of (τ := [some (.lst false (G.map gF)), some (sO p), none, none]) rfl (by show [some (frz (.lst o (G.map gF))), some (frz (sO p)), none, none] = _; rw [gl_frzF, frz_sO]) (ret_of ?_)
  refine xLc_of (xs := enuL 0 (G.map gF)) (τ1 := [some (.lst false (G.map gF)), some (sO p), none, none]) ?_ (by rw [enu_len, List.length_map]; omega) ?_ ?_
  · show (some (frz (.lst false (G.map gF)))).bind enuO = _
    rw [gl_frzF]; rfl
  · show [some (frz (.lst false (G.map gF))), some (frz (sO p)), none, none] = _
    rw [gl_frzF, frz_sO]
  · rw [enu_frz]
    refine lcD_dbt G 0 fun h hh j => ⟨[some (.lst false (G.map gF)), some (sO p), some (.int j), some (gF h)], rfl, ?_, rfl⟩
    refine tNot_of (tOf_of (xCall_g (xs := [gF h, sO p]) (xs2 (show some (frz (gF h)) = _ by rw [frz_gF]) (show some (frz (sO p)) = _ by rw [frz_sO])) ?_))
    show f_in_all [frz (gF h), frz (sO p)] = _
    rw [frz_gF, frz_sO]
    exact Wd.in_all_eq false h (gk8 hG lG hh) hp
theorem flat_ok : (∀ s ∈ G.flatten, Bk 1 s) ∧ (∀ s ∈ G.flatten, Nz s) ∧ G.flatten.length ≤ 80 := by
  refine ⟨fun s hs => ?_, fun s hs => ?_, ?_⟩
  · obtain ⟨g, hg, h⟩ := List.mem_flatten.mp hs
    exact ((hG g hg).2 s h).1
  · obtain ⟨g, hg, h⟩ := List.mem_flatten.mp hs
    exact ((hG g hg).2 s h).2
  · have : ∀ (G : List (List S3)), (∀ g ∈ G, g.length ≤ 2) → G.flatten.length ≤ 2 * G.length := fun G => by
      induction G with
      | nil => exact fun _ => Nat.le_refl _
      | cons g G ih =>
        intro h
        have h1 := h g List.mem_cons_self
        have h2 := ih fun k hk => h k (List.mem_cons_of_mem _ hk)
        rw [List.flatten_cons, List.length_append, List.length_cons]
        omega
    have := this G fun g hg => (hG g hg).1
    omega
theorem all_sides_eq (o : Bool) : f_all_sides [.lst o (G.map gF)] = some (.lst true (G.flatten.map sO)) := by
  have loop : ∀ (R : List (List S3)) (A : List S3) (t2 : Option O), (∀ g ∈ R, g.length ≤ 2) → A.length + 2 * R.length ≤ 10000 → ∃ t2', forD (gN 2) b1_all_sides (R.map gF) [some (.lst false (G.map gF)), some (.lst true (A.map sO)), t2] = some (.nx [some (.lst false (G.map gF)), some (.lst true ((A ++ R.flatten).map sO)), t2']) := by
    intro R
    induction R with
    | nil => exact fun A t2 _ _ => ⟨t2, by rw [List.flatten_nil, List.append_nil]; rfl⟩
    | cons g R ih =>
      intro A t2 hR hl
      have hg := hR g List.mem_cons_self
      rw [List.length_cons] at hl
      obtain ⟨t2', e⟩ := ih (A ++ g) (some (gF g)) (fun k hk => hR k (List.mem_cons_of_mem _ hk)) (by rw [List.length_append]; omega)
      refine ⟨t2', ?_⟩
      have b : b1_all_sides [some (.lst false (G.map gF)), some (.lst true (A.map sO)), some (gF g)] = some (.nx [some (.lst false (G.map gF)), some (.lst true ((A ++ g).map sO)), some (gF g)]) := by
        unfold b1_all_sides sExt
        rw [show xV 2 [some (.lst false (G.map gF)), some (.lst true (A.map sO)), some (gF g)] = some (gF g) from (show some (frz (gF g)) = _ by rw [frz_gF]), Option.bind_some]
        show (if flats (A.map sO) = true ∧ flats (g.map sO) = true ∧ (A.map sO).length + (g.map sO).length ≤ sLine then some (Fl.nx [some (.lst false (G.map gF)), some (.lst true (A.map sO ++ g.map sO)), some (gF g)]) else none) = _
        rw [if_pos ⟨flats_sO A, flats_sO g, Nat.le_trans (show _ ≤ 10000 by rw [List.length_map, List.length_map]; omega) (by decide)⟩, List.map_append]
      rw [List.map_cons, forD_cons (τ1 := [some (.lst false (G.map gF)), some (.lst true (A.map sO)), some (gF g)]) rfl b, e, List.flatten_cons, List.append_assoc]
  unfold f_all_sides s_all_sides
  refine fnD_of (τ := [some (.lst false (G.map gF)), none, none]) rfl (by show [some (frz (.lst o (G.map gF))), none, none] = _; rw [gl_frzF]) ?_
  refine seq_nx (τ' := [some (.lst false (G.map gF)), some (.lst true []), none]) rfl ?_
  obtain ⟨t2', e⟩ := loop G [] none (fun g hg => (hG g hg).1) (by show 0 + 2 * G.length ≤ 10000; omega)
  rw [List.nil_append] at e
  refine seq_nx (τ' := [some (.lst false (G.map gF)), some (.lst true (G.flatten.map sO)), t2']) ?_ rfl
  unfold sFor
  have ei : itL (xV 0) [some (.lst false (G.map gF)), some (.lst true []), none] = some (G.map gF) := by
    unfold itL
    rw [show xV 0 [some (.lst false (G.map gF)), some (.lst true []), none] = some (.lst false (G.map gF)) from (show some (frz (.lst false (G.map gF))) = _ by rw [gl_frzF])]
    rfl
  rw [ei, Option.bind_some, frzs_gF]
  have ef : frzAt [0] [some (.lst false (G.map gF)), some (.lst true []), none] = [some (.lst false (G.map gF)), some (.lst true []), none] := by
    show [some (frz (.lst false (G.map gF))), some (.lst true []), none] = _
    rw [gl_frzF]
  rw [ef]
  exact e
/-- the places that are tried -/
def cands (G : List (List S3)) : List S3 := (0, 0, 1) :: (crsD G.flatten ++ G.flatten.map footS)
theorem cands_ok : (∀ p ∈ cands G, Bk 3 p ∧ Spt p) ∧ (cands G).length ≤ 10000 := by
  obtain ⟨h1, h2, h3⟩ := flat_ok hG lG
  refine ⟨fun p hp => ?_, ?_⟩
  · rcases List.mem_cons.mp hp with h | h
    · rw [h]; exact ⟨⟨sz_of (by decide), sz_of (by decide), sz_of (by decide)⟩, by decide, by decide⟩
    · rcases List.mem_append.mp h with h | h
      · exact crsD_mem h1 h
      · obtain ⟨s, hs, rfl⟩ := List.mem_map.mp h
        have := foot_ok (h1 s hs) (h2 s hs)
        exact ⟨this.1, this.2.1⟩
  · unfold cands
    rw [List.length_cons, List.length_append, List.length_map]
    have a1 := List.length_filterMap_le (fun p : S3 × S3 => crS p.1 p.2) (prs G.flatten)
    have a2 := prs_len G.flatten
    have a3 := Nat.mul_le_mul h3 h3
    have a4 : (crsD G.flatten).length ≤ 0 + ((prs G.flatten).filterMap fun p => crS p.1 p.2).length := addA_len _ _
    omega
theorem candidates_eq (o : Bool) : f_candidates [.lst o (G.map gF)] = some (.lst true ((cands G).map sO)) := by
  obtain ⟨h1, h2, h3⟩ := flat_ok hG lG
  have lc := (cands_ok hG lG).2
  unfold f_candidates s_candidates
  refine fnD_of (τ := [some (.lst false (G.map gF)), none, none]) rfl (by show [some (frz (.lst o (G.map gF))), none, none] = _; rw [gl_frzF]) ?_
  have s1 : sSet [0] 1 (xCall f_all_sides (xsC (xV 0) (xsN))) [some (.lst false (G.map gF)), none, none] = some (.nx [some (.lst false (G.map gF)), some (.lst true (G.flatten.map sO)), none]) := by
    refine set_cl (xCall_g (xs1 (show some (frz (.lst false (G.map gF))) = some (.lst false (G.map gF)) by rw [gl_frzF])) ?_) (enc_lcl _)
    show f_all_sides [frz (.lst false (G.map gF))] = _
    rw [gl_frzF]
    exact all_sides_eq hG lG false
  refine seq_nx s1 (ret_of ?_)
  have x1 : xV 1 [some (.lst false (G.map gF)), some (.lst true (G.flatten.map sO)), none] = some (.lst false (G.flatten.map sO)) := enc_xV rfl
  have e1 : xCall f_crossings (xsC (xV 1) (xsN)) [some (.lst false (G.map gF)), some (.lst true (G.flatten.map sO)), none] = some (.lst true ((crsD G.flatten).map sO)) := by
    refine xCall_g (xs1 x1) ?_
    show f_crossings [frz (.lst false (G.flatten.map sO))] = _
    rw [enc_lfr]
    exact crossings_eq false _ h1 (by omega)
  have e2 : xLc [1] [2] (itL (xV 1)) (gN 2) (tY) (xCall f_foot (xsC (xV 2) (xsN))) [some (.lst false (G.map gF)), some (.lst true (G.flatten.map sO)), none] = some (.lst true ((G.flatten.map footS).map sO)) := by
    refine xLc_of (xs := G.flatten.map sO) (τ1 := [none, some (.lst false (G.flatten.map sO)), none]) (enc_itL x1) (by rw [List.length_map]; omega) (by show [none, some (frz (.lst true (G.flatten.map sO))), none] = _; rw [enc_lfr]) ?_
    rw [frzs_sO]
    refine lcD_mapL fun s hs => ⟨[none, some (.lst false (G.flatten.map sO)), some (sO s)], rfl, xCall_g (xs := [sO s]) (xs1 (show some (frz (sO s)) = _ by rw [frz_sO])) ?_⟩
    show f_foot [frz (sO s)] = _
    rw [frz_sO]
    exact foot_eq (h1 s hs) (h2 s hs)
  unfold cands at lc
  rw [List.length_cons, List.length_append] at lc
  have e0 : xLst (xsC (xTup (xsC (xC (.int 0)) (xsC (xC (.int 0)) (xsC (xC (.int 1)) (xsN))))) (xsN)) [some (.lst false (G.map gF)), some (.lst true (G.flatten.map sO)), none] = some (.lst true ([(0, 0, 1)].map sO)) := rfl
  exact x2_of (x2_of e0 e1 (enc_add (by show 1 + _ ≤ _; omega))) e2 (enc_add (by rw [List.length_append]; show 1 + _ + _ ≤ _; omega))
/-- a place and what it doubts -/
def trO (x : S3 × List Int) : O := .tup [sO x.1, .lst true (x.2.map O.int)]
def trF (x : S3 × List Int) : O := .tup [sO x.1, .lst false (x.2.map O.int)]
omit hG lG in
theorem frz_trO (x : S3 × List Int) : frz (trO x) = trF x := by
  show O.tup [frz (sO x.1), .lst false (frzs (x.2.map O.int))] = _
  rw [frz_sO, frzs_ints]; rfl
omit hG lG in
theorem frz_trF (x : S3 × List Int) : frz (trF x) = trF x := by
  show O.tup [frz (sO x.1), .lst false (frzs (x.2.map O.int))] = _
  rw [frz_sO, frzs_ints]; rfl
omit hG lG in
theorem frzs_trO : ∀ (R : List (S3 × List Int)), frzs (R.map trO) = R.map trF
  | [] => rfl
  | x :: R => by show frz (trO x) :: frzs (R.map trO) = _; rw [frz_trO, frzs_trO R]; rfl
omit hG lG in
theorem frzs_trF : ∀ (R : List (S3 × List Int)), frzs (R.map trF) = R.map trF
  | [] => rfl
  | x :: R => by show frz (trF x) :: frzs (R.map trF) = _; rw [frz_trF, frzs_trF R]; rfl
omit hG lG in
theorem cleans_trO : ∀ (R : List (S3 × List Int)), cleans (R.map trO) = true
  | [] => rfl
  | x :: R => by
    show (clean (trO x) && cleans (R.map trO)) = true
    rw [cleans_trO R, Bool.and_true]
    show (clean (sO x.1) && ((true && cleans (x.2.map O.int)) && true)) = true
    rw [cleans_ints]; rfl
def rowsS (G : List (List S3)) : List (S3 × List Int) := (cands G).map fun p => (p, dbt p 0 G)
/-- the least number of doubts -/
def leastD (G : List (List S3)) : Int := ((rowsS G).map fun x => (x.2.length : Int)).tail.foldl min ((dbt (0, 0, 1) 0 G).length : Int)
def trS (G : List (List S3)) : List (S3 × List Int) := (rowsS G).filter fun x => decide ((x.2.length : Int) = leastD G)
omit hG lG in
theorem asIs_map : ∀ (L : List Int), asIs (L.map O.int) = some L
  | [] => rfl
  | i :: L => by
    show (asIs (L.map O.int)).bind (fun is => some (i :: is)) = _
    rw [asIs_map L]; rfl
omit hG lG in
/-- the least is had, and none is less -/
theorem least_mem : ∃ p ∈ cands G, ((dbt p 0 G).length : Int) = leastD G := by
  have := foldl_min_mem (((rowsS G).map fun x => (x.2.length : Int)).tail) ((dbt (0, 0, 1) 0 G).length : Int)
  have e : (((dbt (0, 0, 1) 0 G).length : Int) :: ((rowsS G).map fun x => (x.2.length : Int)).tail) = (rowsS G).map fun x => (x.2.length : Int) := rfl
  rw [e] at this
  obtain ⟨x, hx, h⟩ := List.mem_map.mp this
  obtain ⟨p, hp, rfl⟩ := List.mem_map.mp hx
  exact ⟨p, hp, h⟩
omit hG lG in
theorem least_le {p : S3} (hp : p ∈ cands G) : leastD G ≤ ((dbt p 0 G).length : Int) := by
  have h := foldl_min_le (((rowsS G).map fun x => (x.2.length : Int)).tail) ((dbt (0, 0, 1) 0 G).length : Int)
  have e : (((dbt (0, 0, 1) 0 G).length : Int) :: ((rowsS G).map fun x => (x.2.length : Int)).tail) = (rowsS G).map fun x => (x.2.length : Int) := rfl
  have m : ((dbt p 0 G).length : Int) ∈ (rowsS G).map fun x => (x.2.length : Int) := List.mem_map.mpr ⟨(p, dbt p 0 G), List.mem_map.mpr ⟨p, hp, rfl⟩, rfl⟩
  rw [← e] at m
  rcases List.mem_cons.mp m with z | z
  · rw [z]; exact h.1
  · exact h.2 _ z
omit hG lG in
theorem trS_mem {x : S3 × List Int} : x ∈ trS G ↔ x.1 ∈ cands G ∧ x.2 = dbt x.1 0 G ∧ ((dbt x.1 0 G).length : Int) = leastD G := by
  unfold trS rowsS
  rw [List.mem_filter, List.mem_map, decide_eq_true_eq]
  constructor
  · rintro ⟨⟨p, hp, rfl⟩, h⟩
    exact ⟨hp, rfl, h⟩
  · rintro ⟨h1, h2, h3⟩
    obtain ⟨p, r⟩ := x
    simp only at h1 h2 h3
    subst h2
    exact ⟨⟨p, h1, rfl⟩, h3⟩
end
end Sm
end
section
set_option Elab.async false
set_option linter.all false
set_option maxRecDepth 100000
namespace Sm
open Dv
section
variable {G : List (List S3)} (hG : Gok G) (lG : G.length ≤ 40)
include hG lG
theorem tried_eq (o : Bool) : f_tried [.lst o (G.map gF)] = some (.lst true ((trS G).map trO)) := by
  obtain ⟨c1, c2⟩ := cands_ok hG lG
  have lR : (rowsS G).length = (cands G).length := by unfold rowsS; rw [List.length_map]
  unfold f_tried s_tried
  refine fnD_of (τ := [some (.lst false (G.map gF)), none, none, none, none]) rfl (by show [some (frz (.lst o (G.map gF))), none, none, none, none] = _; rw [gl_frzF]) ?_
  have x0 : ∀ t1 t2 t3 t4, xV 0 [some (.lst false (G.map gF)), t1, t2, t3, t4] = some (.lst false (G.map gF)) := fun _ _ _ _ => (show some (frz (.lst false (G.map gF))) = _ by rw [gl_frzF])
  have s1 : sSet [0] 1 (xLc [0] [3] (itL (xCall f_candidates (xsC (xV 0) (xsN)))) (gN 3) (tY) (xTup (xsC (xV 3) (xsC (xCall f_doubted (xsC (xV 0) (xsC (xV 3) (xsN)))) (xsN))))) [some (.lst false (G.map gF)), none, none, none, none] = some (.nx [some (.lst false (G.map gF)), some (.lst true ((rowsS G).map trO)), none, none, none]) := by
    refine set_cl (o := .lst true ((rowsS G).map trO)) (xLc_of (xs := (cands G).map sO) (τ1 := [some (.lst false (G.map gF)), none, none, none, none]) ?_ (by rw [List.length_map]; exact c2) ?_ ?_) (by show (true && cleans ((rowsS G).map trO)) = true; rw [cleans_trO]; rfl)
    · refine enc_itL (o := true) (xCall_g (xs1 (x0 _ _ _ _)) ?_)
      show f_candidates [frz (.lst false (G.map gF))] = _
      rw [gl_frzF]
      exact candidates_eq hG lG false
    · show [some (frz (.lst false (G.map gF))), none, none, none, none] = _
      rw [gl_frzF]
    · rw [frzs_sO]
      unfold rowsS
      refine lcD_mapL (e' := trO) fun p hp => ⟨[some (.lst false (G.map gF)), none, none, some (sO p), none], rfl, ?_⟩
      have x3 : xV 3 [some (.lst false (G.map gF)), none, none, some (sO p), none] = some (sO p) := (show some (frz (sO p)) = _ by rw [frz_sO])
      refine xTup_of (xs2 x3 (xCall_g (xs2 (x0 _ _ _ _) x3) ?_)) (by show 2 ≤ 1000; decide)
      show f_doubted [frz (.lst false (G.map gF)), frz (sO p)] = _
      rw [gl_frzF, frz_sO]
      exact doubted_eq hG lG false ((c1 p hp).1.mono (by decide))
  refine seq_nx s1 ?_
  have x1 : ∀ t2 t3 t4, xV 1 [some (.lst false (G.map gF)), some (.lst true ((rowsS G).map trO)), t2, t3, t4] = some (.lst false ((rowsS G).map trF)) := fun _ _ _ => (show some (O.lst false (frzs ((rowsS G).map trO))) = _ by rw [frzs_trO])
  have i1 : ∀ t2 t3 t4, itL (xV 1) [some (.lst false (G.map gF)), some (.lst true ((rowsS G).map trO)), t2, t3, t4] = some ((rowsS G).map trF) := fun t2 t3 t4 => by
    unfold itL
    rw [x1]; rfl
  have ne : rowsS G = ((0, 0, 1), dbt (0, 0, 1) 0 G) :: (rowsS G).tail := rfl
  have s2 : sSet [1] 2 (xF minS (xsC (xLc [1] [3, 4] (itL (xV 1)) (gT 2 (gsC (gN 3) (gsC (gN 4) (gsN)))) (tY) (xF lenD' (xsC (xV 4) (xsN)))) (xsN))) [some (.lst false (G.map gF)), some (.lst true ((rowsS G).map trO)), none, none, none] = some (.nx [some (.lst false (G.map gF)), some (.lst true ((rowsS G).map trO)), some (.int (leastD G)), none, none]) := by
    refine set_cl (o := .int (leastD G)) (xF_g (xs := [.lst true (((rowsS G).map fun x => (x.2.length : Int)).map O.int)]) (xs1 (xLc_of (xs := (rowsS G).map trF) (τ1 := [none, some (.lst false ((rowsS G).map trF)), none, none, none]) (i1 _ _ _) (by rw [List.length_map]; omega) ?_ ?_)) ?_) rfl
    · show [none, some (O.lst false (frzs ((rowsS G).map trO))), none, none, none] = _
      rw [frzs_trO]
    · rw [frzs_trF]
      exact lcD_mapL (e' := O.int) fun x hx => ⟨[none, some (.lst false ((rowsS G).map trF)), none, some (sO x.1), some (.lst false (x.2.map O.int))], rfl, enc_len (enc_xV rfl)⟩
    · show (asIs (((rowsS G).map fun x => (x.2.length : Int)).map O.int)).bind (fun is => (leastI is).bind fun m => some (O.int m)) = _
      rw [asIs_map]
      rfl
  refine seq_nx s2 ?_
  have lk : (rowsS G).length ≤ sLine := Nat.le_trans (show _ ≤ 10000 by omega) (by decide)
  have pk : ∀ (R : List (S3 × List Int)) (t1 : Option O), pickD 3 4 (tOf (x2 eqD (xF lenD' (xsC (xV 4) (xsN))) (xV 2))) (R.map trO) [none, t1, some (.int (leastD G)), none, none] = some ((R.filter fun x => decide ((x.2.length : Int) = leastD G)).map trO) := fun R t1 => by
    induction R with
    | nil => rfl
    | cons x R ih =>
      rw [List.map_cons]
      show pickD 3 4 _ (O.tup [sO x.1, .lst true (x.2.map O.int)] :: R.map trO) _ = _
      unfold pickD
      have e1 : frz (O.lst true (x.2.map O.int)) = .lst false (x.2.map O.int) := enc_lfr true _
      have tv : tOf (x2 eqD (xF lenD' (xsC (xV 4) (xsN))) (xV 2)) [none, t1, some (.int (leastD G)), some (sO x.1), some (.lst false (x.2.map O.int))] = some (decide ((x.2.length : Int) = leastD G)) :=
        tOf_of (x2_of (x := .int x.2.length) (y := .int (leastD G)) (enc_len (enc_xV rfl)) rfl (eqII _ _))
      rw [frz_sO, e1]
      show Option.bind (tOf (x2 eqD (xF lenD' (xsC (xV 4) (xsN))) (xV 2)) [none, t1, some (.int (leastD G)), some (sO x.1), some (.lst false (x.2.map O.int))]) _ = _
      rw [tv, Option.bind_some, ih, Option.bind_some]
      by_cases c : (x.2.length : Int) = leastD G
      · rw [decide_eq_true c, if_pos rfl, List.filter_cons_of_pos (by rw [decide_eq_true c])]; rfl
      · rw [decide_eq_false c, if_neg Bool.false_ne_true, List.filter_cons_of_neg (by rw [decide_eq_false c]; exact Bool.false_ne_true)]
  show (if ((rowsS G).map trO).length ≤ sLine ∧ 3 < 5 ∧ 4 < 5 then (pickD 3 4 (tOf (x2 eqD (xF lenD' (xsC (xV 4) (xsN))) (xV 2))) ((rowsS G).map trO) [none, some (O.lst false (frzs ((rowsS G).map trO))), some (.int (leastD G)), none, none]).bind (fun os => some (Fl.rt (.lst true os))) else none) = _
  rw [if_pos ⟨by rw [List.length_map]; exact lk, by decide, by decide⟩, pk]
  rfl
end
end Sm
end
section
set_option Elab.async false
set_option linter.all false
set_option maxRecDepth 100000
/-! a body that ends with a value of a kind: steps that let the rest open -/
namespace Sm
open Dv
/-- it returns a value with P -/
def Rt (P : O → Prop) (r : Option Fl) : Prop := ∃ o, r = some (.rt o) ∧ P o
def Ok (P : O → Prop) (r : Option O) : Prop := ∃ o, r = some o ∧ P o
section
variable {P : O → Prop} {a b : SS} {c : ST} {e : SE} {τ τ' : Sl} {o : O} {i : Nat}
theorem E_seq (h : a τ = some (.nx τ')) (k : Rt P (b τ')) : Rt P (sSeq a b τ) := by
  unfold sSeq; rw [h]; exact k
theorem E_seqQ (Q : Sl → Prop) (h : ∃ τ', a τ = some (.nx τ') ∧ Q τ') (k : ∀ τ', Q τ' → Rt P (b τ')) : Rt P (sSeq a b τ) := by
  obtain ⟨τ', h1, h2⟩ := h
  exact E_seq h1 (k τ' h2)
theorem E_ret (h : e τ = some o) (k : P o) : Rt P (sRet e τ) := ⟨o, ret_of h, k⟩
theorem E_fn {n m : Nat} {os : List O} (hl : os.length = n) (hτ : os.map (fun o => some (frz o)) ++ List.replicate (m - n) none = τ) (h : Rt P (b τ)) : Ok P (fnD n m b os) := by
  obtain ⟨o, h1, h2⟩ := h
  exact ⟨o, fnD_of hl hτ h1, h2⟩
theorem E_set {ns : List Nat} (h : e τ = some o) (cl : clean o = true) {d : SS} (k : Rt P (d (τ.set i (some o)))) : Rt P (sSeq (sSet ns i e) d τ) := E_seq (set_cl h cl) k
end
theorem fdivI {i j : Int} (h : divOk j = true) : fdivD (.int i) (.int j) = some (.int (i / j)) := if_pos h
theorem modI {i j : Int} (h : 0 < j) : modD (.int i) (.int j) = some (.int (i % j)) := if_pos h
section
variable {i : Nat} {τ : Sl} {w : Bool} {L : List Int}
/-- of drawn numbers: one, a rest of one, a slice -/
theorem dr_ix {k a : Int} (h : τ[i]? = some (some (.lst w (L.map O.int)))) (ha : at? (L.map O.int) k = some (.int a)) : x2 ixD (xV i) (xC (.int k)) τ = some (.int a) := x2_of (x := .lst false (L.map O.int)) (y := .int k) (enc_xV h) rfl ha
theorem dr_mod {k a m : Int} (h : τ[i]? = some (some (.lst w (L.map O.int)))) (ha : at? (L.map O.int) k = some (.int a)) (hm : 0 < m) : x2 modD (x2 ixD (xV i) (xC (.int k))) (xC (.int m)) τ = some (.int (a % m)) := x2_of (dr_ix h ha) (y := .int m) rfl (modI hm)
theorem dr_div {k a m : Int} (h : τ[i]? = some (some (.lst w (L.map O.int)))) (ha : at? (L.map O.int) k = some (.int a)) (hm : divOk m = true) : x2 fdivD (x2 ixD (xV i) (xC (.int k))) (xC (.int m)) τ = some (.int (a / m)) := x2_of (dr_ix h ha) (y := .int m) rfl (fdivI hm)
theorem dr_sl {k : Int} (n : Nat) (e : k = n) (h : τ[i]? = some (some (.lst w (L.map O.int)))) : xSl (xV i) (pI (xC (.int k))) pN τ = some (.lst true ((L.drop n).map O.int)) := by
  subst e
  exact xSl_of (enc_xV h) (pI_of (i := (n : Int)) rfl) rfl (by rw [enc_sl, cut_from])
end
theorem tOf_eqI {a : SE} {τ : Sl} {x k : Int} (h : a τ = some (.int x)) : tOf (x2 eqD a (xC (.int k))) τ = some (decide (x = k)) := tOf_of (x2_of h (y := .int k) rfl (eqII x k))
theorem app_v {ns : List Nat} {i : Nat} {a : SE} {τ : Sl} {o : O} {xs : List O} (h : a τ = some o) (hz : frzAt ns τ = τ) (ht : τ[i]? = some (some (.lst true xs))) (hl : xs.length ≤ 100000) : sApp ns i a τ = some (.nx (τ.set i (some (.lst true (xs ++ [o]))))) := by
  unfold sApp
  rw [h, Option.bind_some, hz]
  simp only [ite_self]
  rw [ht]
  show (if xs.length < sLine then _ else none) = _
  rw [if_pos (Nat.lt_of_le_of_lt hl (by decide))]
end Sm
end
section
set_option Elab.async false
set_option linter.all false
set_option maxRecDepth 100000
/-! the choices -/
namespace Sm
open Dv
theorem lstI_frz (r : List Int) : frz (lstI r) = lstI r := by show O.lst false (frzs (r.map O.int)) = _; rw [frzs_ints]; rfl
theorem frzs_lstI : ∀ (D : List (List Int)), frzs (D.map lstI) = D.map lstI
  | [] => rfl
  | r :: D => by show frz (lstI r) :: frzs (D.map lstI) = _; rw [lstI_frz, frzs_lstI D]; rfl
theorem rl_frz (o : Bool) (D : List (List Int)) : frz (.lst o (D.map lstI)) = .lst false (D.map lstI) := by show O.lst false (frzs (D.map lstI)) = _; rw [frzs_lstI]
theorem rl_xV {i : Nat} {τ : Sl} {o : Bool} {D : List (List Int)} (h : τ[i]? = some (some (.lst o (D.map lstI)))) : xV i τ = some (.lst false (D.map lstI)) := by
  unfold xV Dv.get; rw [h]; show some (frz (.lst o (D.map lstI))) = _; rw [rl_frz]
/-- rows of numbers, not too long -/
def Rok (m : Nat) (D : List (List Int)) : Prop := D.length ≤ m ∧ ∀ r ∈ D, r.length ≤ m
theorem gd_ints (n : Nat) (w : Bool) {r : List Int} (h : r.length ≤ 20000) : gd (n + 1) (.lst w (r.map O.int)) = true := by
  show (decide ((r.map O.int).length ≤ sLine) && (r.map O.int).all (gd n)) = true
  rw [Bool.and_eq_true, List.all_eq_true, List.length_map]
  exact ⟨decide_eq_true (Nat.le_trans h (by decide)), fun x hx => by obtain ⟨p, _, rfl⟩ := List.mem_map.mp hx; cases n <;> rfl⟩
theorem gd_rows (n : Nat) (w : Bool) {D : List (List Int)} (h : Rok 20000 D) : gd (n + 2) (.lst w (D.map lstI)) = true := by
  show (decide ((D.map lstI).length ≤ sLine) && (D.map lstI).all (gd (n + 1))) = true
  rw [Bool.and_eq_true, List.all_eq_true, List.length_map]
  exact ⟨decide_eq_true (Nat.le_trans h.1 (by decide)), fun x hx => by obtain ⟨p, hp, rfl⟩ := List.mem_map.mp hx; exact gd_ints n false (h.2 p hp)⟩
theorem eqo_int2 (w v : Bool) (A B : List Int) : eqo (.lst w (A.map O.int)) (.lst v (B.map O.int)) = decide (A = B) := by
  show eqos (A.map O.int) (B.map O.int) = _
  rw [eqos_ints]
theorem memO_row (w : Bool) (r : List Int) (D : List (List Int)) : memO (.lst w (r.map O.int)) (D.map lstI) = decide (r ∈ D) := by
  unfold memO
  rw [Bool.eq_iff_iff, List.any_eq_true, decide_eq_true_eq]
  constructor
  · rintro ⟨x, hx, h⟩
    obtain ⟨q, hq, rfl⟩ := List.mem_map.mp hx
    have := eqo_int2 false w q r
    rw [show eqo (lstI q) (.lst w (r.map O.int)) = _ from this, decide_eq_true_eq] at h
    rw [← h]; exact hq
  · intro h
    exact ⟨lstI r, List.mem_map.mpr ⟨r, h, rfl⟩, (eqo_int2 false w r r).trans (decide_eq_true rfl)⟩
theorem notIn_row {w v : Bool} {r : List Int} {D : List (List Int)} (hr : r.length ≤ 20000) (hD : Rok 20000 D) : notInD (.lst w (r.map O.int)) (.lst v (D.map lstI)) = some (.bl (!decide (r ∈ D))) := by
  show (if (shO 20 (.lst w (r.map O.int)) && shO 20 (.lst v (D.map lstI))) = true then some (O.bl (!memO (.lst w (r.map O.int)) (D.map lstI))) else none) = _
  rw [gd_sh (n := 11) (by decide) (gd_ints 10 w hr), gd_sh (n := 11) (by decide) (gd_rows 9 v hD), memO_row]
  rfl
/-- one more, if it is new -/
def addR (D : List (List Int)) (r : List Int) : List (List Int) := if r ∈ D then D else D ++ [r]
def addRs (D L : List (List Int)) : List (List Int) := L.foldl addR D
theorem addR_mem {D : List (List Int)} {r x : List Int} : x ∈ addR D r ↔ x ∈ D ∨ x = r := by
  unfold addR
  split
  · constructor
    · exact .inl
    · rintro (h | rfl)
      · exact h
      · assumption
  · rw [List.mem_append, List.mem_singleton]
theorem addRs_mem : ∀ (L D : List (List Int)) {x : List Int}, x ∈ addRs D L ↔ x ∈ D ∨ x ∈ L
  | [], D, x => by simp [addRs]
  | r :: L, D, x => by
    show x ∈ addRs (addR D r) L ↔ _
    rw [addRs_mem L, addR_mem, List.mem_cons]
    constructor
    · rintro ((h | h) | h)
      · exact .inl h
      · exact .inr (.inl h)
      · exact .inr (.inr h)
    · rintro (h | h | h)
      · exact .inl (.inl h)
      · exact .inl (.inr h)
      · exact .inr h
theorem addR_nodup {D : List (List Int)} {r : List Int} (h : D.Nodup) : (addR D r).Nodup := by
  unfold addR
  split
  · exact h
  · rename_i n
    rw [List.nodup_append]
    exact ⟨h, List.nodup_cons.mpr ⟨(fun z => nomatch z), List.nodup_nil⟩, fun a ha b hb e => n (by rw [← List.mem_singleton.mp hb, ← e]; exact ha)⟩
theorem addRs_nodup : ∀ (L D : List (List Int)), D.Nodup → (addRs D L).Nodup
  | [], _, h => h
  | _ :: L, D, h => addRs_nodup L _ (addR_nodup h)
section
variable {G : List (List S3)} (hG : Gok G) (lG : G.length ≤ 40)
/-- the choices, rising -/
def chs (G : List (List S3)) : List (List Int) := (addRs [] ((trS G).map (·.2))).mergeSort leI
include hG lG
omit hG lG in
theorem chs_mem {x : List Int} : x ∈ chs G ↔ ∃ p ∈ cands G, dbt p 0 G = x ∧ (x.length : Int) = leastD G := by
  unfold chs
  rw [List.mem_mergeSort, addRs_mem]
  constructor
  · rintro (h | h)
    · cases h
    · obtain ⟨y, hy, rfl⟩ := List.mem_map.mp h
      obtain ⟨h1, h2, h3⟩ := trS_mem.mp hy
      exact ⟨y.1, h1, h2.symm, by rw [h2]; exact h3⟩
  · rintro ⟨p, hp, rfl, h⟩
    exact .inr (List.mem_map.mpr ⟨(p, dbt p 0 G), trS_mem.mpr ⟨hp, rfl, h⟩, rfl⟩)
end
end Sm
end
section
set_option Elab.async false
set_option linter.all false
set_option maxRecDepth 100000
/-! the choices, told with rows of their own -/
namespace Sm
open Dv
def rO (r : List Int) : O := .lst true (r.map O.int)
theorem frz_rO (r : List Int) : frz (rO r) = lstI r := enc_lfr true r
theorem frzs_rO : ∀ (D : List (List Int)), frzs (D.map rO) = D.map lstI
  | [] => rfl
  | r :: D => by show frz (rO r) :: frzs (D.map rO) = _; rw [frz_rO, frzs_rO D]; rfl
theorem ro_frz (o : Bool) (D : List (List Int)) : frz (.lst o (D.map rO)) = .lst false (D.map lstI) := by show O.lst false (frzs (D.map rO)) = _; rw [frzs_rO]
theorem ro_xV {i : Nat} {τ : Sl} {o : Bool} {D : List (List Int)} (h : τ[i]? = some (some (.lst o (D.map rO)))) : xV i τ = some (.lst false (D.map lstI)) := by
  unfold xV Dv.get; rw [h]; show some (frz (.lst o (D.map rO))) = _; rw [ro_frz]
theorem clean_rO (r : List Int) : clean (rO r) = true := enc_lcl r
theorem cleans_rO : ∀ (D : List (List Int)), cleans (D.map rO) = true
  | [] => rfl
  | r :: D => by show (clean (rO r) && cleans (D.map rO)) = true; rw [clean_rO, cleans_rO D]; rfl
theorem asLO_rO : ∀ (D : List (List Int)), asLO (D.map rO) = some D
  | [] => rfl
  | r :: D => by
    show (asIs (r.map O.int)).bind (fun t => (asLO (D.map rO)).bind fun ts => some (t :: ts)) = _
    rw [asIs_map, asLO_rO D]; rfl
section
variable {G : List (List S3)} (hG : Gok G) (lG : G.length ≤ 40)
include hG lG
theorem chs_loopM : ∀ (R : List (S3 × List Int)) (D : List (List Int)) (t2 t3 : Option O), (∀ x ∈ R, x.2.length ≤ 40) → (∀ r ∈ D, r.length ≤ 40) → D.length + R.length ≤ 10001 →
    ∃ t2' t3', Dv.forM 2 3 b1_choices (R.map trO) [some (.lst false (G.map gF)), some (.lst true (D.map rO)), t2, t3] = some (.nx [some (.lst false (G.map gF)), some (.lst true ((addRs D (R.map (·.2))).map rO)), t2', t3'])
  | [], D, t2, t3, _, _, _ => ⟨t2, t3, rfl⟩
  | x :: R, D, t2, t3, hR, hD, hl => by
    obtain ⟨p, r⟩ := x
    rw [List.length_cons] at hl
    have lr : r.length ≤ 40 := hR (p, r) List.mem_cons_self
    have hR' : ∀ x ∈ R, x.2.length ≤ 40 := fun x hx => hR x (List.mem_cons_of_mem _ hx)
    obtain ⟨τ0, hτ0⟩ : ∃ τ0 : Sl, [some (.lst false (G.map gF)), some (.lst true (D.map rO)), some (sO p), some (rO r)] = τ0 := ⟨_, rfl⟩
    have x3 : xV 3 τ0 = some (.lst false (r.map O.int)) := by rw [← hτ0]; exact enc_xV (A := r) (o := true) rfl
    have c : tOf (x2 notInD (xV 3) (xV 1)) τ0 = some (!decide (r ∈ D)) :=
      tOf_of (x2_of x3 (by rw [← hτ0]; exact ro_xV rfl) (notIn_row (by omega) ⟨by omega, fun q hq => by have := hD q hq; omega⟩))
    have go : ∀ τ', b1_choices τ0 = some (.nx τ') → Dv.forM 2 3 b1_choices (((p, r) :: R).map trO) [some (.lst false (G.map gF)), some (.lst true (D.map rO)), t2, t3] = Dv.forM 2 3 b1_choices (R.map trO) τ' := fun τ' h => by
      rw [List.map_cons]
      show Dv.forM 2 3 b1_choices (O.tup [sO p, rO r] :: R.map trO) _ = _
      conv => lhs; unfold Dv.forM
      show (match b1_choices [some (.lst false (G.map gF)), some (.lst true (D.map rO)), some (sO p), some (rO r)] with
        | some (.nx τ') => Dv.forM 2 3 b1_choices (R.map trO) τ'
        | some (.ct τ') => Dv.forM 2 3 b1_choices (R.map trO) τ'
        | some (.bk τ') => some (.nx τ')
        | some (.rt o) => some (.rt o)
        | none => none) = _
      rw [hτ0, h]
    by_cases h : r ∈ D
    · have e : addRs D (((p, r) :: R).map (·.2)) = addRs D (R.map (·.2)) := by show addRs (addR D r) _ = _; unfold addR; rw [if_pos h]
      obtain ⟨t2', t3', ih⟩ := chs_loopM R D (some (sO p)) (some (rO r)) hR' hD (by omega)
      refine ⟨t2', t3', ?_⟩
      rw [e, go τ0 (by unfold b1_choices; exact if_f (c.trans (by rw [decide_eq_true h]; rfl)) rfl), ← hτ0]
      exact ih
    · have e : addRs D (((p, r) :: R).map (·.2)) = addRs (D ++ [r]) (R.map (·.2)) := by show addRs (addR D r) _ = _; unfold addR; rw [if_neg h]
      obtain ⟨t2', t3', ih⟩ := chs_loopM R (D ++ [r]) (some (sO p)) none hR' (fun q hq => by
        rcases List.mem_append.mp hq with z | z
        · exact hD q z
        · rw [List.mem_singleton.mp z]; exact lr) (by rw [List.length_append]; show D.length + 1 + R.length ≤ _; omega)
      refine ⟨t2', t3', ?_⟩
      have ap : sAppMv 1 3 τ0 = some (.nx [some (.lst false (G.map gF)), some (.lst true ((D ++ [r]).map rO)), some (sO p), none]) := by
        rw [← hτ0]
        unfold sAppMv
        show (if (1 : Nat) ≠ 3 ∧ clean (rO r) = true ∧ (D.map rO).length < sLine then some (Fl.nx [some (.lst false (G.map gF)), some (.lst true (D.map rO ++ [rO r])), some (sO p), none]) else none) = _
        rw [if_pos ⟨by decide, clean_rO r, Nat.lt_of_le_of_lt (show _ ≤ 10001 by rw [List.length_map]; omega) (by decide)⟩, List.map_append]
        rfl
      rw [e, go _ (by unfold b1_choices; exact if_t (c.trans (by rw [decide_eq_false h]; rfl)) ap)]
      exact ih
theorem choices_eq (o : Bool) : f_choices [.lst o (G.map gF)] = some (.lst true ((chs G).map rO)) := by
  have ht := tried_eq hG lG false
  have lt : (trS G).length ≤ 10000 := by
    unfold trS
    refine Nat.le_trans (List.length_filter_le _ _) ?_
    unfold rowsS
    rw [List.length_map]
    exact (cands_ok hG lG).2
  have lr : ∀ x ∈ trS G, x.2.length ≤ 40 := fun x hx => by
    obtain ⟨_, h, _⟩ := trS_mem.mp hx
    rw [h]
    have := dbt_len x.1 0 G
    omega
  unfold f_choices s_choices
  refine fnD_of (τ := [some (.lst false (G.map gF)), none, none, none]) rfl (by show [some (frz (.lst o (G.map gF))), none, none, none] = _; rw [gl_frzF]) ?_
  refine seq_nx (τ' := [some (.lst false (G.map gF)), some (.lst true []), none, none]) rfl ?_
  obtain ⟨t2', t3', e⟩ := chs_loopM hG lG (trS G) [] none none lr (fun r h => nomatch h) (by show 0 + _ ≤ _; omega)
  refine seq_nx (τ' := [some (.lst false (G.map gF)), some (.lst true ((addRs [] ((trS G).map (·.2))).map rO)), t2', t3']) ?_ ?_
  · unfold sForM
    rw [xCall_g (o := .lst true ((trS G).map trO)) (xs1 (show some (frz (.lst false (G.map gF))) = some (.lst false (G.map gF)) by rw [gl_frzF])) (by
        show f_tried [frz (.lst false (G.map gF))] = _
        rw [gl_frzF]; exact ht), Option.bind_some]
    show (if cleans ((trS G).map trO) = true ∧ (2 : Nat) ≠ 3 then Dv.forM 2 3 b1_choices ((trS G).map trO) [some (.lst false (G.map gF)), some (.lst true []), none, none] else none) = _
    rw [if_pos ⟨cleans_trO _, by decide⟩]
    exact e
  · unfold sRetSortM
    show (asLO ((addRs [] ((trS G).map (·.2))).map rO)).bind _ = _
    rw [asLO_rO]; rfl
end
end Sm
end
section
set_option Elab.async false
set_option linter.all false
set_option maxRecDepth 100000
/-! the law's doubts -/
namespace Sm
open Dv
section
variable {G : List (List S3)} (hG : Gok G) (lG : G.length ≤ 40)
include hG lG
theorem ldoubts_eq (o : Bool) {p : S3} (hp : Bk 17 p) : f__law_doubts [.lst o (G.map gF), sO p] = some (.lst true ((dbt p 0 G).map O.int)) := by
  unfold f__law_doubts s__law_doubts
  refine fnD_of (τ := [some (.lst false (G.map gF)), some (sO p), none, none]) rfl (by show [some (frz (.lst o (G.map gF))), some (frz (sO p)), none, none] = _; rw [gl_frzF, frz_sO]) (ret_of ?_)
  refine xLc_of (xs := enuL 0 (G.map gF)) (τ1 := [some (.lst false (G.map gF)), some (sO p), none, none]) ?_ (by rw [enu_len, List.length_map]; omega) ?_ ?_
  · show (some (frz (.lst false (G.map gF)))).bind enuO = _
    rw [gl_frzF]; rfl
  · show [some (frz (.lst false (G.map gF))), some (frz (sO p)), none, none] = _
    rw [gl_frzF, frz_sO]
  · rw [enu_frz]
    refine lcD_dbt G 0 fun h hh j => ⟨[some (.lst false (G.map gF)), some (sO p), some (.int j), some (gF h)], rfl, ?_, rfl⟩
    refine tNot_of (tOf_of (xCall_g (xs := [gF h, sO p]) (xs2 (show some (frz (gF h)) = _ by rw [frz_gF]) (show some (frz (sO p)) = _ by rw [frz_sO])) ?_))
    show f__law_has [frz (gF h), frz (sO p)] = _
    rw [frz_gF, frz_sO]
    exact Wd.hasS_eq false h (gk8 hG lG hh) (by have := (hG h hh).1; omega) hp
end
end Sm
end
section
set_option Elab.async false
set_option linter.all false
set_option maxRecDepth 100000
/-! the law's least doubts: the choices -/
namespace Sm
open Dv
def lawP (G : List (List S3)) : List S3 := ((0, 0, 1) :: G.flatten.map footS) ++ crsA G.flatten
theorem crsA_len (S : List S3) (h : S.length ≤ 80) : (crsA S).length ≤ 6400 := by
  have a1 := List.length_filterMap_le (fun p : S3 × S3 => crS p.1 p.2) (prs S)
  have a2 := prs_len S
  have a3 := Nat.mul_le_mul h h
  unfold crsA
  omega
theorem turnS_eq {p q : S3} (hp : Bk 1 p) (hq : Bk 1 q) : f__law_turned [sO p, sO q] = some (.int (crW p.1 p.2.1 p.2.2 q.1 q.2.1 q.2.2)) := by
  obtain ⟨a, b, c⟩ := p
  obtain ⟨d, e, f⟩ := q
  obtain ⟨h1, h2, h3⟩ := hp
  obtain ⟨h4, h5, h6⟩ := hq
  simp only at h1 h2 h3 h4 h5 h6
  have m1 : mulOk a e = true := mulOk_sz rfl
  have m2 : mulOk b d = true := mulOk_sz rfl
  have h := turned_eq (p := a) (q := b) (x := d) (y := e) [.int c] [.int f] m1 m2 rfl rfl
  unfold sO
  rw [h]
theorem led_in (t0 t1 t2 t4 t7 t8 t9 t10 t11 : Option O) (p : S3) (hp : Bk 1 p) : ∀ (R P : List S3) (t6 : Option O), (∀ s ∈ R, Bk 1 s) → P.length + R.length ≤ 90000 →
    ∃ t6', forD (gN 6) b2__law_least_doubts (R.map sO) [t0, t1, t2, some (.lst true (P.map sO)), t4, some (sO p), t6, t7, t8, t9, t10, t11] = some (.nx [t0, t1, t2, some (.lst true ((P ++ R.filterMap (crS p)).map sO)), t4, some (sO p), t6', t7, t8, t9, t10, t11]) := by
  intro R
  induction R with
  | nil => exact fun P t6 _ _ => ⟨t6, by rw [List.filterMap_nil, List.append_nil]; rfl⟩
  | cons q R ih =>
    intro P t6 hR hl
    rw [List.length_cons] at hl
    have hq := hR q List.mem_cons_self
    have hR' : ∀ s ∈ R, Bk 1 s := fun s h => hR s (List.mem_cons_of_mem _ h)
    have ht := turnS_eq hp hq
    have hm := meet_eq hp hq
    obtain ⟨τ0, hτ0⟩ : ∃ τ0 : Sl, [t0, t1, t2, some (.lst true (P.map sO)), t4, some (sO p), some (sO q), t7, t8, t9, t10, t11] = τ0 := ⟨_, rfl⟩
    have x5 : xV 5 τ0 = some (sO p) := by rw [← hτ0]; show some (frz (sO p)) = _; rw [frz_sO]
    have x6 : xV 6 τ0 = some (sO q) := by rw [← hτ0]; show some (frz (sO q)) = _; rw [frz_sO]
    have c : tOf (x2 neD (xCall f__law_turned (xsC (xV 5) (xsC (xV 6) (xsN)))) (xC (.int 0))) τ0 = some (!decide (crW p.1 p.2.1 p.2.2 q.1 q.2.1 q.2.2 = 0)) :=
      tOf_of (x2_of (xCall_g (xs2 x5 x6) (by show f__law_turned [frz (sO p), frz (sO q)] = _; rw [frz_sO, frz_sO]; exact ht)) rfl (neII _ _))
    rw [List.map_cons]
    cases e : crS p q with
    | none =>
      have e0 : crW p.1 p.2.1 p.2.2 q.1 q.2.1 q.2.2 = 0 := by
        unfold crS at e
        split at e
        · assumption
        · cases e
      obtain ⟨t6', h⟩ := ih P (some (sO q)) hR' (by omega)
      refine ⟨t6', ?_⟩
      rw [List.filterMap_cons_none e, forD_cons (τ1 := τ0) (τ' := τ0) (by rw [← hτ0]; rfl) (by
        unfold b2__law_least_doubts
        exact if_f (c.trans (by rw [e0]; rfl)) rfl), ← hτ0]
      exact h
    | some s =>
      have e0 : ¬ crW p.1 p.2.1 p.2.2 q.1 q.2.1 q.2.2 = 0 := by
        unfold crS at e
        split at e
        · cases e
        · assumption
      rw [e] at hm
      obtain ⟨t6', h⟩ := ih (P ++ [s]) (some (sO q)) hR' (by rw [List.length_append]; show P.length + 1 + _ ≤ _; omega)
      refine ⟨t6', ?_⟩
      have ap : sApp [5, 6] 3 (xCall f__law_meet (xsC (xV 5) (xsC (xV 6) (xsN)))) τ0 = some (.nx [t0, t1, t2, some (.lst true ((P ++ [s]).map sO)), t4, some (sO p), some (sO q), t7, t8, t9, t10, t11]) := by
        have hz : frzAt [5, 6] τ0 = τ0 := by
          rw [← hτ0]
          show [t0, t1, t2, some (.lst true (P.map sO)), t4, some (frz (sO p)), some (frz (sO q)), t7, t8, t9, t10, t11] = _
          rw [frz_sO, frz_sO]
        rw [app_v (o := sO s) (xs := P.map sO) (xCall_g (xs2 x5 x6) (by show f__law_meet [frz (sO p), frz (sO q)] = _; rw [frz_sO, frz_sO]; exact hm)) hz (by rw [← hτ0]; rfl) (by rw [List.length_map]; omega), ← hτ0, List.map_append]
        rfl
      rw [List.filterMap_cons_some e, forD_cons (τ1 := τ0) (by rw [← hτ0]; rfl) (by
        unfold b2__law_least_doubts
        exact if_t (c.trans (by rw [decide_eq_false e0]; rfl)) ap), h, List.append_assoc]
      rfl
theorem led_out (t0 t2 t7 t8 t9 t10 t11 : Option O) (S : List S3) (hS : ∀ s ∈ S, Bk 1 s) (hn : S.length ≤ 80) : ∀ (R A P : List S3) (t4 t5 t6 : Option O), A ++ R = S → P.length ≤ 100 + 80 * A.length →
    ∃ t4' t5' t6', forD (gT 2 (gsC (gN 4) (gsC (gN 5) gsN))) b3__law_least_doubts (enuL A.length (R.map sO)) [t0, some (.lst false (S.map sO)), t2, some (.lst true (P.map sO)), t4, t5, t6, t7, t8, t9, t10, t11] =
      some (.nx [t0, some (.lst false (S.map sO)), t2, some (.lst true ((P ++ crsA R).map sO)), t4', t5', t6', t7, t8, t9, t10, t11]) := by
  intro R
  induction R with
  | nil => exact fun A P t4 t5 t6 _ _ => ⟨t4, t5, t6, by show _ = some (Fl.nx [t0, _, t2, some (.lst true ((P ++ []).map sO)), t4, t5, t6, t7, t8, t9, t10, t11]); rw [List.append_nil]; rfl⟩
  | cons p R ih =>
    intro A P t4 t5 t6 e hP
    have hlS : A.length + (R.length + 1) = S.length := by rw [← e, List.length_append, List.length_cons]
    have hp : Bk 1 p := hS p (by rw [← e]; simp)
    have hR : ∀ s ∈ R, Bk 1 s := fun s h => hS s (by rw [← e]; simp [h])
    have hcut : cut S (some ((A.length : Int) + 1)) none = R := by
      have := cut_from (L := S) (k := A.length + 1)
      rw [show ((A.length + 1 : Nat) : Int) = (A.length : Int) + 1 by omega] at this
      rw [this, ← e, List.drop_append]
      simp
    obtain ⟨t6', h1⟩ := led_in t0 (some (.lst false (S.map sO))) t2 (some (.int A.length)) t7 t8 t9 t10 t11 p hp R P t6 hR (by omega)
    have hlen := List.length_filterMap_le (crS p) R
    obtain ⟨t4', t5', t6'', h2⟩ := ih (A ++ [p]) (P ++ R.filterMap (crS p)) (some (.int A.length)) (some (sO p)) t6' (by rw [List.append_assoc]; exact e) (by rw [List.length_append, List.length_append]; show _ ≤ 100 + 80 * (A.length + 1); omega)
    refine ⟨t4', t5', t6'', ?_⟩
    obtain ⟨τ0, hτ0⟩ : ∃ τ0 : Sl, [t0, some (.lst false (S.map sO)), t2, some (.lst true (P.map sO)), some (.int A.length), some (sO p), t6, t7, t8, t9, t10, t11] = τ0 := ⟨_, rfl⟩
    have hb : b3__law_least_doubts τ0 = some (.nx [t0, some (.lst false (S.map sO)), t2, some (.lst true ((P ++ R.filterMap (crS p)).map sO)), some (.int A.length), some (sO p), t6', t7, t8, t9, t10, t11]) := by
      unfold b3__law_least_doubts sFor
      have x1 : xV 1 τ0 = some (.lst false (S.map sO)) := by rw [← hτ0]; exact enc_xV rfl
      have ei : itL (xSl (xV 1) (pI (x2 addD (xV 4) (xC (.int 1)))) pN) τ0 = some (R.map sO) := by
        rw [← hcut]
        exact enc_itL (o := true) (xSl_of x1 (pI_of (x2_of (x := .int A.length) (y := .int 1) (by rw [← hτ0]; rfl) rfl rfl)) rfl enc_sl)
      rw [ei, Option.bind_some, frzs_sO]
      have ef : frzAt [1] τ0 = τ0 := by
        rw [← hτ0]
        show [t0, some (frz (.lst false (S.map sO))), t2, _, _, _, _, _, _, _, _, _] = _
        rw [enc_lfr]
      rw [ef, ← hτ0]
      exact h1
    show forD _ _ (.tup [.int A.length, sO p] :: enuL (A.length + 1) (R.map sO)) _ = _
    rw [forD_cons (τ1 := τ0) (by rw [← hτ0]; rfl) hb]
    have e3 : (A ++ [p]).length = A.length + 1 := by rw [List.length_append]; rfl
    rw [e3] at h2
    rw [h2]
    have e4 : P ++ crsA (p :: R) = (P ++ R.filterMap (crS p)) ++ crsA R := by
      rw [List.append_assoc]
      congr 1
      show (R.map (fun b => (p, b)) ++ prs R).filterMap _ = _
      rw [List.filterMap_append, List.filterMap_map]; rfl
    rw [e4]
theorem addRs_sub : ∀ (L D : List (List Int)), (addRs D L).Sublist (D ++ L)
  | [], D => by show D.Sublist (D ++ []); rw [List.append_nil]; exact List.Sublist.refl _
  | r :: L, D => by
    have h := addRs_sub L (addR D r)
    show (addRs (addR D r) L).Sublist _
    refine h.trans ?_
    unfold addR
    split
    · exact List.Sublist.append (List.Sublist.refl _) (List.sublist_cons_self _ _)
    · rw [List.append_assoc]; exact List.Sublist.refl _
section
variable {G : List (List S3)} (hG : Gok G) (lG : G.length ≤ 40)
include hG lG
omit hG lG in
theorem lawP_mem {p : S3} : p ∈ lawP G ↔ p ∈ cands G := by
  unfold lawP cands crsD
  rw [List.mem_append, List.mem_cons, List.mem_cons, List.mem_append, addA_mem]
  constructor
  · rintro ((h | h) | h)
    · exact .inl h
    · exact .inr (.inr h)
    · exact .inr (.inl (.inr h))
  · rintro (h | (h | h) | h)
    · exact .inl (.inl h)
    · cases h
    · exact .inr h
    · exact .inl (.inr h)
/-- what is found: the shortest rows, each once, in order -/
theorem led_chs {M : List (List Int)} (hM : M = ((lawP G).map fun p => dbt p 0 G).mergeSort leI) {m : Int} (h1 : ∃ r ∈ M, (r.length : Int) = m) (h2 : ∀ r ∈ M, m ≤ r.length) : addRs [] (M.filter fun r => decide ((r.length : Int) = m)) = chs G := by
  have mem : ∀ r, r ∈ M ↔ ∃ p ∈ cands G, dbt p 0 G = r := fun r => by
    rw [hM, List.mem_mergeSort, List.mem_map]
    exact ⟨fun ⟨p, a, b⟩ => ⟨p, lawP_mem.mp a, b⟩, fun ⟨p, a, b⟩ => ⟨p, lawP_mem.mpr a, b⟩⟩
  have em : m = leastD G := by
    obtain ⟨r, hr, e⟩ := h1
    obtain ⟨p, hp, e2⟩ := (mem r).mp hr
    obtain ⟨q, hq, e3⟩ := least_mem (G := G)
    have l1 := h2 _ ((mem _).mpr ⟨q, hq, rfl⟩)
    have l2 := least_le (G := G) hp
    rw [e2] at l2
    omega
  have sm : M.Pairwise (fun a b => leI a b = true) := hM ▸ List.pairwise_mergeSort leI_trans leI_total _
  have so : (addRs [] (M.filter fun r => decide ((r.length : Int) = m))).Pairwise (fun a b => leI a b = true) := sm.sublist (((addRs_sub _ []).trans (by rw [List.nil_append]; exact List.Sublist.refl _)).trans List.filter_sublist)
  rw [← List.mergeSort_of_pairwise so]
  unfold chs
  refine sort_perm ((List.perm_ext_iff_of_nodup (addRs_nodup _ _ List.nodup_nil) (addRs_nodup _ _ List.nodup_nil)).mpr fun x => ?_)
  have e : x ∈ addRs [] ((trS G).map (·.2)) ↔ x ∈ chs G := by unfold chs; rw [List.mem_mergeSort]
  rw [e, chs_mem, addRs_mem, List.mem_filter, mem, decide_eq_true_eq, em]
  constructor
  · rintro (h | ⟨⟨p, hp, h⟩, l⟩)
    · cases h
    · exact ⟨p, hp, h, l⟩
  · rintro ⟨p, hp, h, l⟩
    exact .inr ⟨⟨p, hp, h⟩, l⟩
omit hG lG in
theorem fnd_loop (t0 t1 t2 t3 t4 t5 t6 t7 t11 : Option O) (m : Int) : ∀ (R D : List (List Int)) (t10 : Option O), (∀ r ∈ R, r.length ≤ 40) → (∀ r ∈ D, r.length ≤ 40) → D.length + R.length ≤ 10001 →
    ∃ t10', forD (gN 10) b4__law_least_doubts (R.map lstI) [t0, t1, t2, t3, t4, t5, t6, t7, some (.int m), some (.lst true (D.map lstI)), t10, t11] = some (.nx [t0, t1, t2, t3, t4, t5, t6, t7, some (.int m), some (.lst true ((addRs D (R.filter fun r => decide ((r.length : Int) = m))).map lstI)), t10', t11])
  | [], D, t10, _, _, _ => ⟨t10, rfl⟩
  | r :: R, D, t10, hR, hD, hl => by
    rw [List.length_cons] at hl
    have lr : r.length ≤ 40 := hR r List.mem_cons_self
    have hR' : ∀ x ∈ R, x.length ≤ 40 := fun x hx => hR x (List.mem_cons_of_mem _ hx)
    obtain ⟨τ0, hτ0⟩ : ∃ τ0 : Sl, [t0, t1, t2, t3, t4, t5, t6, t7, some (.int m), some (.lst true (D.map lstI)), some (lstI r), t11] = τ0 := ⟨_, rfl⟩
    have x10 : xV 10 τ0 = some (.lst false (r.map O.int)) := by rw [← hτ0]; exact enc_xV (A := r) rfl
    have c1 : tOf (x2 eqD (xF lenD' (xsC (xV 10) (xsN))) (xV 8)) τ0 = some (decide ((r.length : Int) = m)) := tOf_of (x2_of (enc_len x10) (y := .int m) (by rw [← hτ0]; rfl) (eqII _ _))
    have c2 : tOf (x2 notInD (xV 10) (xV 9)) τ0 = some (!decide (r ∈ D)) := tOf_of (x2_of x10 (by rw [← hτ0]; exact rl_xV rfl) (notIn_row (by omega) ⟨by omega, fun q hq => by have := hD q hq; omega⟩))
    have skip : forD (gN 10) b4__law_least_doubts (R.map lstI) τ0 = forD (gN 10) b4__law_least_doubts (R.map lstI) [t0, t1, t2, t3, t4, t5, t6, t7, some (.int m), some (.lst true (D.map lstI)), some (lstI r), t11] := by rw [hτ0]
    rw [List.map_cons]
    by_cases hm : (r.length : Int) = m
    · by_cases hd : r ∈ D
      · obtain ⟨t', h⟩ := fnd_loop t0 t1 t2 t3 t4 t5 t6 t7 t11 m R D (some (lstI r)) hR' hD (by omega)
        refine ⟨t', ?_⟩
        have e : addRs D (r :: R.filter fun r => decide ((r.length : Int) = m)) = addRs D (R.filter fun r => decide ((r.length : Int) = m)) := by show addRs (addR D r) _ = _; unfold addR; rw [if_pos hd]
        rw [forD_cons (τ1 := τ0) (τ' := τ0) (by rw [← hτ0]; rfl) (by
          unfold b4__law_least_doubts
          exact if_f ((tAnd_of c1 fun _ => c2).trans (by rw [decide_eq_true hm, decide_eq_true hd]; rfl)) rfl), skip, h, List.filter_cons_of_pos (by rw [decide_eq_true hm]), e]
      · obtain ⟨t', h⟩ := fnd_loop t0 t1 t2 t3 t4 t5 t6 t7 t11 m R (D ++ [r]) (some (lstI r)) hR' (fun q hq => by
          rcases List.mem_append.mp hq with z | z
          · exact hD q z
          · rw [List.mem_singleton.mp z]; exact lr) (by rw [List.length_append]; show D.length + 1 + R.length ≤ _; omega)
        refine ⟨t', ?_⟩
        have e : addRs D (r :: R.filter fun r => decide ((r.length : Int) = m)) = addRs (D ++ [r]) (R.filter fun r => decide ((r.length : Int) = m)) := by show addRs (addR D r) _ = _; unfold addR; rw [if_neg hd]
        have ap : sApp [10] 9 (xV 10) τ0 = some (.nx [t0, t1, t2, t3, t4, t5, t6, t7, some (.int m), some (.lst true ((D ++ [r]).map lstI)), some (lstI r), t11]) := by
          rw [app_v (xs := D.map lstI) x10 (by
            rw [← hτ0]
            show [t0, t1, t2, t3, t4, t5, t6, t7, some (.int m), some (.lst true (D.map lstI)), some (frz (lstI r)), t11] = _
            rw [lstI_frz]) (by rw [← hτ0]; rfl) (by rw [List.length_map]; omega), ← hτ0, List.map_append]
          rfl
        rw [forD_cons (τ1 := τ0) (by rw [← hτ0]; rfl) (by
          unfold b4__law_least_doubts
          exact if_t ((tAnd_of c1 fun _ => c2).trans (by rw [decide_eq_true hm, decide_eq_false hd]; rfl)) ap), h, List.filter_cons_of_pos (by rw [decide_eq_true hm]), e]
    · obtain ⟨t', h⟩ := fnd_loop t0 t1 t2 t3 t4 t5 t6 t7 t11 m R D (some (lstI r)) hR' hD (by omega)
      refine ⟨t', ?_⟩
      rw [forD_cons (τ1 := τ0) (τ' := τ0) (by rw [← hτ0]; rfl) (by
        unfold b4__law_least_doubts
        exact if_f ((tAnd_of c1 fun _ => c2).trans (by rw [decide_eq_false hm]; rfl)) rfl), skip, h, List.filter_cons_of_neg (by rw [decide_eq_false hm]; exact Bool.false_ne_true)]
omit hG lG in
theorem asLs_own : ∀ (D : List (List Int)), asLs (D.map fun r => O.lst true (r.map O.int)) = some D
  | [] => rfl
  | r :: D => by
    show (asIs (r.map O.int)).bind (fun t => (asLs (D.map fun r => O.lst true (r.map O.int))).bind fun ts => some (t :: ts)) = _
    rw [asIs_map, asLs_own D]; rfl
theorem least_doubts_eq (o : Bool) : f__law_least_doubts [.lst o (G.map gF)] = some (.lst true ((chs G).map lstI)) := by
  obtain ⟨h1, h2, h3⟩ := flat_ok hG lG
  have sl := crsA_len G.flatten h3
  have sides : ∀ (R : List (List S3)) (A : List S3) (t2 : Option O), (∀ g ∈ R, g.length ≤ 2) → A.length + 2 * R.length ≤ 10000 → ∃ t2', forD (gN 2) b1__law_least_doubts (R.map gF) [some (.lst false (G.map gF)), some (.lst true (A.map sO)), t2, none, none, none, none, none, none, none, none, none] = some (.nx [some (.lst false (G.map gF)), some (.lst true ((A ++ R.flatten).map sO)), t2', none, none, none, none, none, none, none, none, none]) := by
    intro R
    induction R with
    | nil => exact fun A t2 _ _ => ⟨t2, by rw [List.flatten_nil, List.append_nil]; rfl⟩
    | cons g R ih =>
      intro A t2 hR hl
      have hg := hR g List.mem_cons_self
      rw [List.length_cons] at hl
      obtain ⟨t2', e⟩ := ih (A ++ g) (some (gF g)) (fun k hk => hR k (List.mem_cons_of_mem _ hk)) (by rw [List.length_append]; omega)
      refine ⟨t2', ?_⟩
      rw [List.map_cons, forD_cons (τ1 := [some (.lst false (G.map gF)), some (.lst true (A.map sO)), some (gF g), none, none, none, none, none, none, none, none, none]) rfl (by
        unfold b1__law_least_doubts
        exact set_cl (x2_of (enc_xV (A := A) rfl) (y := gF g) (show some (frz (gF g)) = _ by rw [frz_gF]) (enc_add (by omega))) (enc_lcl _)), List.flatten_cons, ← List.append_assoc, ← e]
      rfl
  unfold f__law_least_doubts s__law_least_doubts
  refine fnD_of (τ := [some (.lst false (G.map gF)), none, none, none, none, none, none, none, none, none, none, none]) rfl (by show [some (frz (.lst o (G.map gF))), none, none, none, none, none, none, none, none, none, none, none] = _; rw [gl_frzF]) ?_
  have gx : ∀ {τ : Sl}, τ[0]? = some (some (.lst false (G.map gF))) → xV 0 τ = some (.lst false (G.map gF)) := fun {τ} h => by
    unfold xV Dv.get
    rw [h]
    show some (frz (.lst false (G.map gF))) = _
    rw [gl_frzF]
  refine seq_nx (τ' := [some (.lst false (G.map gF)), some (.lst true []), none, none, none, none, none, none, none, none, none, none]) rfl ?_
  obtain ⟨t2', e2⟩ := sides G [] none (fun g hg => (hG g hg).1) (by show 0 + 2 * G.length ≤ 10000; omega)
  rw [List.nil_append] at e2
  refine seq_nx (τ' := [some (.lst false (G.map gF)), some (.lst true (G.flatten.map sO)), t2', none, none, none, none, none, none, none, none, none]) ?_ ?_
  · unfold sFor
    have ei : itL (xV 0) [some (.lst false (G.map gF)), some (.lst true []), none, none, none, none, none, none, none, none, none, none] = some (G.map gF) := by
      unfold itL
      rw [gx rfl]; rfl
    rw [ei, Option.bind_some, frzs_gF]
    have ef : frzAt [0] [some (.lst false (G.map gF)), some (.lst true []), none, none, none, none, none, none, none, none, none, none] = [some (.lst false (G.map gF)), some (.lst true []), none, none, none, none, none, none, none, none, none, none] := by
      show [some (frz (.lst false (G.map gF))), some (.lst true []), none, none, none, none, none, none, none, none, none, none] = _
      rw [gl_frzF]
    rw [ef]
    exact e2
  obtain ⟨S, hS⟩ : ∃ S, G.flatten = S := ⟨_, rfl⟩
  rw [hS] at h1 h2 h3 sl ⊢
  have ft := feet_eq false S h1 h2 (by omega)
  -- the places
  refine seq_nx (τ' := [some (.lst false (G.map gF)), some (.lst true (S.map sO)), t2', some (.lst true (((0, 0, 1) :: S.map footS).map sO)), none, none, none, none, none, none, none, none]) (set_cl (x2_of (x := .lst true ([(0, 0, 1)].map sO)) rfl (xCall_g (xs1 (enc_xV rfl)) (by show f__law_feet [frz (.lst false (S.map sO))] = _; rw [enc_lfr]; exact ft)) (enc_add (by rw [List.length_map]; show 1 + _ ≤ _; omega))) (enc_lcl _)) ?_
  obtain ⟨t4', t5', t6', e4⟩ := led_out (some (.lst false (G.map gF))) t2' none none none none none S h1 h3 S [] ((0, 0, 1) :: S.map footS) none none none rfl (by rw [List.length_cons, List.length_map]; show _ ≤ 100 + 80 * 0; omega)
  have eP : ((0, 0, 1) :: S.map footS) ++ crsA S = lawP G := by unfold lawP; rw [hS]
  rw [eP] at e4
  refine seq_nx (τ' := [some (.lst false (G.map gF)), some (.lst false (S.map sO)), t2', some (.lst true ((lawP G).map sO)), t4', t5', t6', none, none, none, none, none]) ?_ ?_
  · unfold sFor
    have x1 : ∀ t2 t3, xV 1 [some (.lst false (G.map gF)), some (.lst true (S.map sO)), t2, t3, none, none, none, none, none, none, none, none] = some (.lst false (S.map sO)) := fun _ _ => enc_xV rfl
    have ei : ∀ t2 t3, itEn (xV 1) [some (.lst false (G.map gF)), some (.lst true (S.map sO)), t2, t3, none, none, none, none, none, none, none, none] = some (enuL 0 (S.map sO)) := fun t2 t3 => by
      unfold itEn
      rw [x1]; rfl
    rw [ei, Option.bind_some, frzs_enu]
    have ef : ∀ t2 t3, frzAt [1] [some (.lst false (G.map gF)), some (.lst true (S.map sO)), t2, t3, none, none, none, none, none, none, none, none] = [some (.lst false (G.map gF)), some (.lst false (S.map sO)), t2, t3, none, none, none, none, none, none, none, none] := fun t2 t3 => by
      show [_, some (frz (.lst true (S.map sO))), t2, t3, none, none, none, none, none, none, none, none] = _
      rw [enc_lfr]
    rw [ef]
    exact e4
  have lP : (lawP G).length ≤ 10000 := by
    rw [← eP, List.length_append, List.length_cons, List.length_map]; omega
  have bP : ∀ p ∈ lawP G, Bk 17 p := fun p hp => ((cands_ok hG lG).1 p (lawP_mem.mp hp)).1.mono (by decide)
  obtain ⟨L, hL⟩ : ∃ L, (lawP G).map (fun p => dbt p 0 G) = L := ⟨_, rfl⟩
  obtain ⟨M, hM⟩ : ∃ M, L.mergeSort leI = M := ⟨_, rfl⟩
  have lM : M.length = (lawP G).length := by rw [← hM, (List.mergeSort_perm _ _).length_eq, ← hL, List.length_map]
  have rM : ∀ r ∈ M, r.length ≤ 40 := fun r hr => by
    rw [← hM, List.mem_mergeSort, ← hL] at hr
    obtain ⟨p, _, rfl⟩ := List.mem_map.mp hr
    have := dbt_len p 0 G; omega
  have neP : 0 < (lawP G).length := by rw [← eP]; simp
  obtain ⟨r0, M', hM'⟩ : ∃ r0 M', M = r0 :: M' := by
    cases M with
    | nil => rw [← lM] at neP; simp at neP
    | cons a b => exact ⟨a, b, rfl⟩
  -- the rows
  have r7 : sSet [3, 0] 7 (xF sortL (xsC (xLc [3, 0] [11] (itL (xV 3)) (gN 11) (tY) (xCall f__law_doubts (xsC (xV 0) (xsC (xV 11) (xsN))))) (xsN))) [some (.lst false (G.map gF)), some (.lst false (S.map sO)), t2', some (.lst true ((lawP G).map sO)), t4', t5', t6', none, none, none, none, none] =
      some (.nx [some (.lst false (G.map gF)), some (.lst false (S.map sO)), t2', some (.lst false ((lawP G).map sO)), t4', t5', t6', some (.lst true (M.map lstI)), none, none, none, none]) := by
    refine set_nx (o := .lst true (M.map lstI)) (xF_1 (v := .lst true (L.map fun r => O.lst true (r.map O.int))) (xLc_of (xs := (lawP G).map sO) (τ1 := [some (.lst false (G.map gF)), none, none, some (.lst false ((lawP G).map sO)), none, none, none, none, none, none, none, none]) (enc_itL (enc_xV rfl)) (by rw [List.length_map]; omega) ?_ ?_) ?_) ?_
    · show [some (frz (.lst false (G.map gF))), none, none, some (frz (.lst true ((lawP G).map sO))), none, none, none, none, none, none, none, none] = _
      rw [gl_frzF, enc_lfr]
    · rw [frzs_sO, ← hL]
      have := lcD_mapL (e := sO) (e' := fun r : List Int => O.lst true (r.map O.int)) (f := fun p => dbt p 0 G) (g := gN 11) (x := xCall f__law_doubts (xsC (xV 0) (xsC (xV 11) (xsN)))) (τ := [some (.lst false (G.map gF)), none, none, some (.lst false ((lawP G).map sO)), none, none, none, none, none, none, none, none]) (A := lawP G) fun p hp => ⟨[some (.lst false (G.map gF)), none, none, some (.lst false ((lawP G).map sO)), none, none, none, none, none, none, none, some (sO p)], rfl, xCall_g (xs2 (gx rfl) (show some (frz (sO p)) = some (sO p) by rw [frz_sO])) (by
        show f__law_doubts [frz (.lst false (G.map gF)), frz (sO p)] = _
        rw [gl_frzF, frz_sO]
        exact ldoubts_eq hG lG false (bP p hp))⟩
      exact this
    · show (asLs (L.map fun r => O.lst true (r.map O.int))).bind (fun bs => some (O.lst true ((bs.mergeSort leI).map lstI))) = _
      rw [asLs_own, Option.bind_some, hM]
    · have c : clean (.lst true (M.map lstI)) = false := by rw [hM']; rfl
      unfold Dv.put
      rw [c]
      show [some (frz (.lst false (G.map gF))), some (.lst false (S.map sO)), t2', some (frz (.lst true ((lawP G).map sO))), t4', t5', t6', some (.lst true (M.map lstI)), none, none, none, none] = _
      rw [gl_frzF, enc_lfr]
  refine seq_nx r7 ?_
  obtain ⟨m, hm⟩ : ∃ m, ((M'.map fun r => (r.length : Int)).foldl min (r0.length : Int)) = m := ⟨_, rfl⟩
  have x7 : ∀ t3 t4 t5 t6 t8 t9 t10 t11, xV 7 [some (.lst false (G.map gF)), some (.lst false (S.map sO)), t2', t3, t4, t5, t6, some (.lst true (M.map lstI)), t8, t9, t10, t11] = some (.lst false (M.map lstI)) := fun _ _ _ _ _ _ _ _ => rl_xV rfl
  have i7 : ∀ t3 t4 t5 t6 t8 t9 t10 t11, itL (xV 7) [some (.lst false (G.map gF)), some (.lst false (S.map sO)), t2', t3, t4, t5, t6, some (.lst true (M.map lstI)), t8, t9, t10, t11] = some (M.map lstI) := fun _ _ _ _ _ _ _ _ => by
    unfold itL
    rw [x7]; rfl
  have s8 : sSet [7] 8 (xF minS (xsC (xLc [7] [10] (itL (xV 7)) (gN 10) (tY) (xF lenD' (xsC (xV 10) (xsN)))) (xsN))) [some (.lst false (G.map gF)), some (.lst false (S.map sO)), t2', some (.lst false ((lawP G).map sO)), t4', t5', t6', some (.lst true (M.map lstI)), none, none, none, none] =
      some (.nx [some (.lst false (G.map gF)), some (.lst false (S.map sO)), t2', some (.lst false ((lawP G).map sO)), t4', t5', t6', some (.lst true (M.map lstI)), some (.int m), none, none, none]) := by
    refine set_cl (o := .int m) (xF_1 (v := .lst true ((M.map fun r => (r.length : Int)).map O.int)) (xLc_of (xs := M.map lstI) (τ1 := [none, none, none, none, none, none, none, some (.lst false (M.map lstI)), none, none, none, none]) (i7 _ _ _ _ _ _ _ _) (by rw [List.length_map]; omega) ?_ ?_) ?_) rfl
    · show [none, none, none, none, none, none, none, some (frz (.lst true (M.map lstI))), none, none, none, none] = _
      rw [rl_frz]
    · rw [frzs_lstI]
      exact lcD_mapL (e' := O.int) fun r hr => ⟨[none, none, none, none, none, none, none, some (.lst false (M.map lstI)), none, none, some (lstI r), none], rfl, enc_len (enc_xV (A := r) rfl)⟩
    · show (asIs ((M.map fun r => (r.length : Int)).map O.int)).bind (fun is => (leastI is).bind fun m => some (O.int m)) = _
      rw [asIs_map, Option.bind_some, hM']
      show some (O.int ((M'.map fun r => (r.length : Int)).foldl min (r0.length : Int))) = _
      rw [hm]
  refine seq_nx s8 (seq_nx (set_cl (o := .lst true []) rfl rfl) ?_)
  obtain ⟨t10', e10⟩ := fnd_loop (some (.lst false (G.map gF))) (some (.lst false (S.map sO))) t2' (some (.lst false ((lawP G).map sO))) t4' t5' t6' (some (.lst false (M.map lstI))) none m M [] none rM (fun r h => nomatch h) (by show 0 + _ ≤ _; omega)
  have mm := foldl_min_mem (M'.map fun r => (r.length : Int)) (r0.length : Int)
  have ml := foldl_min_le (M'.map fun r => (r.length : Int)) (r0.length : Int)
  rw [hm] at mm ml
  have key := led_chs hG lG (M := M) (by rw [← hM, ← hL]) (m := m) (by
    rw [hM']
    rcases List.mem_cons.mp mm with h | h
    · exact ⟨r0, List.mem_cons_self, h.symm⟩
    · obtain ⟨r, hr, e⟩ := List.mem_map.mp h
      exact ⟨r, List.mem_cons_of_mem _ hr, e⟩) (fun r hr => by
    rw [hM'] at hr
    rcases List.mem_cons.mp hr with h | h
    · rw [h]; exact ml.1
    · exact ml.2 _ (List.mem_map.mpr ⟨r, h, rfl⟩))
  rw [key] at e10
  refine seq_nx (τ' := [some (.lst false (G.map gF)), some (.lst false (S.map sO)), t2', some (.lst false ((lawP G).map sO)), t4', t5', t6', some (.lst false (M.map lstI)), some (.int m), some (.lst true ((chs G).map lstI)), t10', none]) ?_ rfl
  unfold sFor
  show (Option.bind (itL (xV 7) [some (.lst false (G.map gF)), some (.lst false (S.map sO)), t2', some (.lst false ((lawP G).map sO)), t4', t5', t6', some (.lst true (M.map lstI)), some (.int m), some (.lst true []), none, none]) _) = _
  rw [i7, Option.bind_some, frzs_lstI]
  show forD (gN 10) b4__law_least_doubts (M.map lstI) [some (.lst false (G.map gF)), some (.lst false (S.map sO)), t2', some (.lst false ((lawP G).map sO)), t4', t5', t6', some (frz (.lst true (M.map lstI))), some (.int m), some (.lst true []), none, none] = _
  rw [rl_frz]
  exact e10
end
end Sm
end
section
set_option Elab.async false
set_option linter.all false
set_option maxRecDepth 100000
namespace Sm
open Dv
/-! draws -/
theorem power_eq (n : Int) : ∃ p, f__law_power [.int n] = some (.int p) ∧ 0 ≤ p ∧ p < 1000003 := by
  have h1 : 0 ≤ n % 1000003 := Int.emod_nonneg _ (by decide)
  have h2 : n % 1000003 < 1000003 := Int.emod_lt_of_pos _ (by decide)
  have hp : powOk (n % 1000003) 5 = true := by
    unfold powOk
    rw [decide_eq_true (by omega), decide_eq_true (by omega), decide_eq_true (by omega)]; rfl
  refine ⟨(n % 1000003) ^ 5 % 1000003, ?_, Int.emod_nonneg _ (by decide), Int.emod_lt_of_pos _ (by decide)⟩
  unfold f__law_power s__law_power
  simp only [Dv.get, Dv.xV, Dv.xC, Dv.frz, Dv.frzs, Dv.flat, Dv.flats, Dv.clean, Dv.cleans, Dv.frzSlot, Dv.frz1, Dv.frzAt, Dv.put, Dv.addD, Dv.subD, Dv.mulD, Dv.fdivD, Dv.modD, Dv.negD, Dv.x2, Dv.x1, Dv.xsN, Dv.xsC, Dv.xTup, Dv.xLst, Dv.xCall, Dv.asB, Dv.tOf, Dv.tNot, Dv.tAnd, Dv.tOr, Dv.xB, Dv.xIf, Dv.cmpI, Dv.ltD, Dv.leD, Dv.gtD, Dv.geD, Dv.xAnd, Dv.xOr, Dv.xNot, Dv.sN, Dv.sSeq, Dv.sSet, Dv.sRet, Dv.sRetV, Dv.sIf, Dv.sBk, Dv.sCt, Dv.gN, Dv.gsN, Dv.gsC, Dv.gT, Dv.fnD, Dv.ixD, Dv.slD, Dv.pN, Dv.pI, Dv.xSl, Dv.lenD', Dv.intD, Dv.maxD, Dv.minD, Dv.allD, Dv.anyD, Dv.allB, Dv.listD, Dv.xF, Dv.isiD, Dv.eqD, Dv.neD, Dv.isND, Dv.notND, Dv.isN2, Dv.notN2, Dv.sApp, Dv.itL, Dv.itR1, Dv.itR2, Dv.rngL, Dv.zipL, Dv.zipO, Dv.itZ, Dv.enuL, Dv.enuO, Dv.itEn, Dv.wipeD, Dv.keepD, Dv.tY, Dv.sAsg, Dv.sPar, Dv.sPar3, Dv.sAugI, Dv.sDrop, Dv.le_sLine, Dv.sh_non, Dv.sh_bl, Dv.sh_int, Dv.sh_tup, Dv.sh_lst, Dv.eqo_int, Dv.eqo_bl, Dv.eqo_tup, Dv.eqo_lst, Dv.eqos_nil, Dv.eqos_cons, List.all_cons, List.all_nil, Dv.beq_tt, Dv.beq_ff, Dv.beq_tf, Dv.beq_ft, List.getElem?_cons_zero, List.getElem?_cons_succ, List.getElem?_nil, List.set_cons_zero, List.set_cons_succ, List.set_nil, Option.bind_some, Option.bind_none, Option.map_some, Option.map_none, if_true, if_false, ↓reduceIte, decide_true, decide_false, Bool.false_eq_true, Bool.true_and, Bool.and_true, Bool.false_and, Bool.and_false, Bool.not_true, Bool.not_false, Bool.true_or, Bool.or_true, Bool.false_or, Bool.or_false, List.cons_append, List.nil_append, List.length_cons, List.length_nil, List.map_cons, List.map_nil, List.replicate_succ, List.replicate_zero, Nat.reduceAdd, Nat.reduceSub, Nat.reduceLT, Nat.reduceEqDiff, Nat.reduceLeDiff, Int.reduceAdd, Int.reduceSub, Int.reduceMul, Int.reduceNeg, Int.reduceLT, Int.reduceLE, Int.reduceEq, Int.reduceMod, Int.reduceDiv, Int.reduceToNat, Nat.add_zero, Nat.zero_add, List.contains_cons, List.contains_nil, Nat.reduceBEq, beq_self_eq_true, reduceCtorEq, and_true, true_and, and_false, false_and, not_true_eq_false, not_false_eq_true, powD, hp]
/-- a list that the draws have made so far -/
def DrawL (m : Nat) (L : List Int) : Prop := L.length ≤ m ∧ ∀ x ∈ L, 0 ≤ x ∧ x < 1000003
theorem DrawL.add {m : Nat} {L : List Int} {x : Int} (h : DrawL m L) (h0 : 0 ≤ x) (h1 : x < 1000003) : DrawL (m + 1) (L ++ [x]) := by
  refine ⟨by rw [List.length_append]; exact Nat.succ_le_succ h.1, fun y hy => ?_⟩
  rcases List.mem_append.mp hy with hy | hy
  · exact h.2 y hy
  · rw [List.mem_singleton.mp hy]; exact ⟨h0, h1⟩
theorem DrawL.mono {m n : Nat} {L : List Int} (h : DrawL m L) (i : m ≤ n) : DrawL n L := ⟨Nat.le_trans h.1 i, h.2⟩
theorem map_app (L : List Int) (x : Int) : L.map O.int ++ [O.int x] = (L ++ [x]).map O.int := by rw [List.map_append]; rfl
theorem cell_eq (scr : O) (m c : Int) (L : List Int) (mix : Int) (o5 : Option O) (N : Nat) (hm : 0 ≤ m) (hm2 : m ≤ 1000) (hN : N ≤ 100) (hmix : 0 ≤ mix ∧ mix < 2147483647) (hL : DrawL (m.toNat + N) L) :
    ∃ (L' : List Int) (mix' : Int) (o5' : Option O), b2__law_draws [some scr, some (.int m), some (.lst true (L.map O.int)), some (.int mix), some (.int c), o5] =
      some (.nx [some scr, some (.int m), some (.lst true (L'.map O.int)), some (.int mix'), some (.int c), o5']) ∧ (0 ≤ mix' ∧ mix' < 2147483647) ∧ DrawL (m.toNat + (N + 1)) L' := by
  have hmul : mulOk mix 48271 = true := mul_ok (n := 2147483647) (m := 48271) (by unfold Bd; omega) (by decide)
  have hlen : L.length ≤ 1100 := by have := hL.1; omega
  have hmul2 : mulOk 1009 (L.length : Int) = true := mul_ok (n := 1009) (m := 1100) (by decide) (by unfold Bd; omega)
  have hpw : powD (.int 10) (.int 18) = some (.int 1000000000000000000) := rfl
  have hdv : divOk 1000003 = true := by decide
  obtain ⟨p, hp, hp0, hp1⟩ := power_eq (c + 1009 * (L.length : Int))
  -- the while: the rest is taken to pieces
  have whl : ∀ (k : Nat) (L : List Int) (r mx : Int), 0 ≤ r → DrawL (m.toNat + (N + 1)) L → m.toNat - L.length ≤ k →
      ∃ L' r', sWhl c1__law_draws b1__law_draws
        [some scr, some (.int m), some (.lst true (L.map O.int)), some (.int mx), some (.int c), some (.int r)] =
        some (.nx [some scr, some (.int m), some (.lst true (L'.map O.int)), some (.int mx), some (.int c), some (.int r')]) ∧ DrawL (m.toNat + (N + 1)) L' := by
    intro k
    induction k with
    | zero =>
      intro L r mx hr hL hk
      refine ⟨L, r, sWhl_end ?_, hL⟩
      have h2 : ¬ ((L.length : Int) < m) := by omega
      by_cases h1 : 0 < r
      · simp only [Dv.get, Dv.xV, Dv.xC, Dv.frz, Dv.frzs, Dv.flat, Dv.flats, Dv.clean, Dv.cleans, Dv.frzSlot, Dv.frz1, Dv.frzAt, Dv.put, Dv.addD, Dv.subD, Dv.mulD, Dv.fdivD, Dv.modD, Dv.negD, Dv.x2, Dv.x1, Dv.xsN, Dv.xsC, Dv.xTup, Dv.xLst, Dv.xCall, Dv.asB, Dv.tOf, Dv.tNot, Dv.tAnd, Dv.tOr, Dv.xB, Dv.xIf, Dv.cmpI, Dv.ltD, Dv.leD, Dv.gtD, Dv.geD, Dv.xAnd, Dv.xOr, Dv.xNot, Dv.sN, Dv.sSeq, Dv.sSet, Dv.sRet, Dv.sRetV, Dv.sIf, Dv.sBk, Dv.sCt, Dv.gN, Dv.gsN, Dv.gsC, Dv.gT, Dv.fnD, Dv.ixD, Dv.slD, Dv.pN, Dv.pI, Dv.xSl, Dv.lenD', Dv.intD, Dv.maxD, Dv.minD, Dv.allD, Dv.anyD, Dv.allB, Dv.listD, Dv.xF, Dv.isiD, Dv.eqD, Dv.neD, Dv.isND, Dv.notND, Dv.isN2, Dv.notN2, Dv.sApp, Dv.itL, Dv.itR1, Dv.itR2, Dv.rngL, Dv.zipL, Dv.zipO, Dv.itZ, Dv.enuL, Dv.enuO, Dv.itEn, Dv.wipeD, Dv.keepD, Dv.tY, Dv.sAsg, Dv.sPar, Dv.sPar3, Dv.sAugI, Dv.sDrop, Dv.le_sLine, Dv.sh_non, Dv.sh_bl, Dv.sh_int, Dv.sh_tup, Dv.sh_lst, Dv.eqo_int, Dv.eqo_bl, Dv.eqo_tup, Dv.eqo_lst, Dv.eqos_nil, Dv.eqos_cons, List.all_cons, List.all_nil, Dv.beq_tt, Dv.beq_ff, Dv.beq_tf, Dv.beq_ft, List.getElem?_cons_zero, List.getElem?_cons_succ, List.getElem?_nil, List.set_cons_zero, List.set_cons_succ, List.set_nil, Option.bind_some, Option.bind_none, Option.map_some, Option.map_none, if_true, if_false, ↓reduceIte, decide_true, decide_false, Bool.false_eq_true, Bool.true_and, Bool.and_true, Bool.false_and, Bool.and_false, Bool.not_true, Bool.not_false, Bool.true_or, Bool.or_true, Bool.false_or, Bool.or_false, List.cons_append, List.nil_append, List.length_cons, List.length_nil, List.map_cons, List.map_nil, List.replicate_succ, List.replicate_zero, Nat.reduceAdd, Nat.reduceSub, Nat.reduceLT, Nat.reduceEqDiff, Nat.reduceLeDiff, Int.reduceAdd, Int.reduceSub, Int.reduceMul, Int.reduceNeg, Int.reduceLT, Int.reduceLE, Int.reduceEq, Int.reduceMod, Int.reduceDiv, Int.reduceToNat, Nat.add_zero, Nat.zero_add, List.contains_cons, List.contains_nil, Nat.reduceBEq, beq_self_eq_true, reduceCtorEq, and_true, true_and, and_false, false_and, not_true_eq_false, not_false_eq_true, c1__law_draws, frzs_ints, List.length_map, h1, h2]
      · simp only [Dv.get, Dv.xV, Dv.xC, Dv.frz, Dv.frzs, Dv.flat, Dv.flats, Dv.clean, Dv.cleans, Dv.frzSlot, Dv.frz1, Dv.frzAt, Dv.put, Dv.addD, Dv.subD, Dv.mulD, Dv.fdivD, Dv.modD, Dv.negD, Dv.x2, Dv.x1, Dv.xsN, Dv.xsC, Dv.xTup, Dv.xLst, Dv.xCall, Dv.asB, Dv.tOf, Dv.tNot, Dv.tAnd, Dv.tOr, Dv.xB, Dv.xIf, Dv.cmpI, Dv.ltD, Dv.leD, Dv.gtD, Dv.geD, Dv.xAnd, Dv.xOr, Dv.xNot, Dv.sN, Dv.sSeq, Dv.sSet, Dv.sRet, Dv.sRetV, Dv.sIf, Dv.sBk, Dv.sCt, Dv.gN, Dv.gsN, Dv.gsC, Dv.gT, Dv.fnD, Dv.ixD, Dv.slD, Dv.pN, Dv.pI, Dv.xSl, Dv.lenD', Dv.intD, Dv.maxD, Dv.minD, Dv.allD, Dv.anyD, Dv.allB, Dv.listD, Dv.xF, Dv.isiD, Dv.eqD, Dv.neD, Dv.isND, Dv.notND, Dv.isN2, Dv.notN2, Dv.sApp, Dv.itL, Dv.itR1, Dv.itR2, Dv.rngL, Dv.zipL, Dv.zipO, Dv.itZ, Dv.enuL, Dv.enuO, Dv.itEn, Dv.wipeD, Dv.keepD, Dv.tY, Dv.sAsg, Dv.sPar, Dv.sPar3, Dv.sAugI, Dv.sDrop, Dv.le_sLine, Dv.sh_non, Dv.sh_bl, Dv.sh_int, Dv.sh_tup, Dv.sh_lst, Dv.eqo_int, Dv.eqo_bl, Dv.eqo_tup, Dv.eqo_lst, Dv.eqos_nil, Dv.eqos_cons, List.all_cons, List.all_nil, Dv.beq_tt, Dv.beq_ff, Dv.beq_tf, Dv.beq_ft, List.getElem?_cons_zero, List.getElem?_cons_succ, List.getElem?_nil, List.set_cons_zero, List.set_cons_succ, List.set_nil, Option.bind_some, Option.bind_none, Option.map_some, Option.map_none, if_true, if_false, ↓reduceIte, decide_true, decide_false, Bool.false_eq_true, Bool.true_and, Bool.and_true, Bool.false_and, Bool.and_false, Bool.not_true, Bool.not_false, Bool.true_or, Bool.or_true, Bool.false_or, Bool.or_false, List.cons_append, List.nil_append, List.length_cons, List.length_nil, List.map_cons, List.map_nil, List.replicate_succ, List.replicate_zero, Nat.reduceAdd, Nat.reduceSub, Nat.reduceLT, Nat.reduceEqDiff, Nat.reduceLeDiff, Int.reduceAdd, Int.reduceSub, Int.reduceMul, Int.reduceNeg, Int.reduceLT, Int.reduceLE, Int.reduceEq, Int.reduceMod, Int.reduceDiv, Int.reduceToNat, Nat.add_zero, Nat.zero_add, List.contains_cons, List.contains_nil, Nat.reduceBEq, beq_self_eq_true, reduceCtorEq, and_true, true_and, and_false, false_and, not_true_eq_false, not_false_eq_true, c1__law_draws, frzs_ints, List.length_map, h1, h2]
    | succ k ih =>
      intro L r mx hr hL hk
      by_cases h1 : 0 < r
      · by_cases h2 : (L.length : Int) < m
        · have hx0 : 0 ≤ r % 1000003 := Int.emod_nonneg _ (by decide)
          have hx1 : r % 1000003 < 1000003 := Int.emod_lt_of_pos _ (by decide)
          have hL1 : L.length < 1000 := by omega
          have hsz : L.length < sLine := by show L.length < 16777216; omega
          have hL2 : DrawL (m.toNat + (N + 1)) (L ++ [r % 1000003]) := by
            refine ⟨by rw [List.length_append]; show L.length + 1 ≤ _; omega, (hL.add hx0 hx1).2⟩
          obtain ⟨L', r', h3, h4⟩ := ih (L ++ [r % 1000003]) (r / 1000003) mx (Int.ediv_nonneg hr (by decide)) hL2 (by rw [List.length_append]; show m.toNat - (L.length + 1) ≤ k; omega)
          refine ⟨L', r', sWhl_turn ?_ ?_ h3, h4⟩
          · simp only [Dv.get, Dv.xV, Dv.xC, Dv.frz, Dv.frzs, Dv.flat, Dv.flats, Dv.clean, Dv.cleans, Dv.frzSlot, Dv.frz1, Dv.frzAt, Dv.put, Dv.addD, Dv.subD, Dv.mulD, Dv.fdivD, Dv.modD, Dv.negD, Dv.x2, Dv.x1, Dv.xsN, Dv.xsC, Dv.xTup, Dv.xLst, Dv.xCall, Dv.asB, Dv.tOf, Dv.tNot, Dv.tAnd, Dv.tOr, Dv.xB, Dv.xIf, Dv.cmpI, Dv.ltD, Dv.leD, Dv.gtD, Dv.geD, Dv.xAnd, Dv.xOr, Dv.xNot, Dv.sN, Dv.sSeq, Dv.sSet, Dv.sRet, Dv.sRetV, Dv.sIf, Dv.sBk, Dv.sCt, Dv.gN, Dv.gsN, Dv.gsC, Dv.gT, Dv.fnD, Dv.ixD, Dv.slD, Dv.pN, Dv.pI, Dv.xSl, Dv.lenD', Dv.intD, Dv.maxD, Dv.minD, Dv.allD, Dv.anyD, Dv.allB, Dv.listD, Dv.xF, Dv.isiD, Dv.eqD, Dv.neD, Dv.isND, Dv.notND, Dv.isN2, Dv.notN2, Dv.sApp, Dv.itL, Dv.itR1, Dv.itR2, Dv.rngL, Dv.zipL, Dv.zipO, Dv.itZ, Dv.enuL, Dv.enuO, Dv.itEn, Dv.wipeD, Dv.keepD, Dv.tY, Dv.sAsg, Dv.sPar, Dv.sPar3, Dv.sAugI, Dv.sDrop, Dv.le_sLine, Dv.sh_non, Dv.sh_bl, Dv.sh_int, Dv.sh_tup, Dv.sh_lst, Dv.eqo_int, Dv.eqo_bl, Dv.eqo_tup, Dv.eqo_lst, Dv.eqos_nil, Dv.eqos_cons, List.all_cons, List.all_nil, Dv.beq_tt, Dv.beq_ff, Dv.beq_tf, Dv.beq_ft, List.getElem?_cons_zero, List.getElem?_cons_succ, List.getElem?_nil, List.set_cons_zero, List.set_cons_succ, List.set_nil, Option.bind_some, Option.bind_none, Option.map_some, Option.map_none, if_true, if_false, ↓reduceIte, decide_true, decide_false, Bool.false_eq_true, Bool.true_and, Bool.and_true, Bool.false_and, Bool.and_false, Bool.not_true, Bool.not_false, Bool.true_or, Bool.or_true, Bool.false_or, Bool.or_false, List.cons_append, List.nil_append, List.length_cons, List.length_nil, List.map_cons, List.map_nil, List.replicate_succ, List.replicate_zero, Nat.reduceAdd, Nat.reduceSub, Nat.reduceLT, Nat.reduceEqDiff, Nat.reduceLeDiff, Int.reduceAdd, Int.reduceSub, Int.reduceMul, Int.reduceNeg, Int.reduceLT, Int.reduceLE, Int.reduceEq, Int.reduceMod, Int.reduceDiv, Int.reduceToNat, Nat.add_zero, Nat.zero_add, List.contains_cons, List.contains_nil, Nat.reduceBEq, beq_self_eq_true, reduceCtorEq, and_true, true_and, and_false, false_and, not_true_eq_false, not_false_eq_true, c1__law_draws, frzs_ints, List.length_map, h1, h2]
          · simp only [Dv.get, Dv.xV, Dv.xC, Dv.frz, Dv.frzs, Dv.flat, Dv.flats, Dv.clean, Dv.cleans, Dv.frzSlot, Dv.frz1, Dv.frzAt, Dv.put, Dv.addD, Dv.subD, Dv.mulD, Dv.fdivD, Dv.modD, Dv.negD, Dv.x2, Dv.x1, Dv.xsN, Dv.xsC, Dv.xTup, Dv.xLst, Dv.xCall, Dv.asB, Dv.tOf, Dv.tNot, Dv.tAnd, Dv.tOr, Dv.xB, Dv.xIf, Dv.cmpI, Dv.ltD, Dv.leD, Dv.gtD, Dv.geD, Dv.xAnd, Dv.xOr, Dv.xNot, Dv.sN, Dv.sSeq, Dv.sSet, Dv.sRet, Dv.sRetV, Dv.sIf, Dv.sBk, Dv.sCt, Dv.gN, Dv.gsN, Dv.gsC, Dv.gT, Dv.fnD, Dv.ixD, Dv.slD, Dv.pN, Dv.pI, Dv.xSl, Dv.lenD', Dv.intD, Dv.maxD, Dv.minD, Dv.allD, Dv.anyD, Dv.allB, Dv.listD, Dv.xF, Dv.isiD, Dv.eqD, Dv.neD, Dv.isND, Dv.notND, Dv.isN2, Dv.notN2, Dv.sApp, Dv.itL, Dv.itR1, Dv.itR2, Dv.rngL, Dv.zipL, Dv.zipO, Dv.itZ, Dv.enuL, Dv.enuO, Dv.itEn, Dv.wipeD, Dv.keepD, Dv.tY, Dv.sAsg, Dv.sPar, Dv.sPar3, Dv.sAugI, Dv.sDrop, Dv.le_sLine, Dv.sh_non, Dv.sh_bl, Dv.sh_int, Dv.sh_tup, Dv.sh_lst, Dv.eqo_int, Dv.eqo_bl, Dv.eqo_tup, Dv.eqo_lst, Dv.eqos_nil, Dv.eqos_cons, List.all_cons, List.all_nil, Dv.beq_tt, Dv.beq_ff, Dv.beq_tf, Dv.beq_ft, List.getElem?_cons_zero, List.getElem?_cons_succ, List.getElem?_nil, List.set_cons_zero, List.set_cons_succ, List.set_nil, Option.bind_some, Option.bind_none, Option.map_some, Option.map_none, if_true, if_false, ↓reduceIte, decide_true, decide_false, Bool.false_eq_true, Bool.true_and, Bool.and_true, Bool.false_and, Bool.and_false, Bool.not_true, Bool.not_false, Bool.true_or, Bool.or_true, Bool.false_or, Bool.or_false, List.cons_append, List.nil_append, List.length_cons, List.length_nil, List.map_cons, List.map_nil, List.replicate_succ, List.replicate_zero, Nat.reduceAdd, Nat.reduceSub, Nat.reduceLT, Nat.reduceEqDiff, Nat.reduceLeDiff, Int.reduceAdd, Int.reduceSub, Int.reduceMul, Int.reduceNeg, Int.reduceLT, Int.reduceLE, Int.reduceEq, Int.reduceMod, Int.reduceDiv, Int.reduceToNat, Nat.add_zero, Nat.zero_add, List.contains_cons, List.contains_nil, Nat.reduceBEq, beq_self_eq_true, reduceCtorEq, and_true, true_and, and_false, false_and, not_true_eq_false, not_false_eq_true, b1__law_draws, frzs_ints, List.length_map, hsz, hdv, map_app]
        · refine ⟨L, r, sWhl_end ?_, hL⟩
          simp only [Dv.get, Dv.xV, Dv.xC, Dv.frz, Dv.frzs, Dv.flat, Dv.flats, Dv.clean, Dv.cleans, Dv.frzSlot, Dv.frz1, Dv.frzAt, Dv.put, Dv.addD, Dv.subD, Dv.mulD, Dv.fdivD, Dv.modD, Dv.negD, Dv.x2, Dv.x1, Dv.xsN, Dv.xsC, Dv.xTup, Dv.xLst, Dv.xCall, Dv.asB, Dv.tOf, Dv.tNot, Dv.tAnd, Dv.tOr, Dv.xB, Dv.xIf, Dv.cmpI, Dv.ltD, Dv.leD, Dv.gtD, Dv.geD, Dv.xAnd, Dv.xOr, Dv.xNot, Dv.sN, Dv.sSeq, Dv.sSet, Dv.sRet, Dv.sRetV, Dv.sIf, Dv.sBk, Dv.sCt, Dv.gN, Dv.gsN, Dv.gsC, Dv.gT, Dv.fnD, Dv.ixD, Dv.slD, Dv.pN, Dv.pI, Dv.xSl, Dv.lenD', Dv.intD, Dv.maxD, Dv.minD, Dv.allD, Dv.anyD, Dv.allB, Dv.listD, Dv.xF, Dv.isiD, Dv.eqD, Dv.neD, Dv.isND, Dv.notND, Dv.isN2, Dv.notN2, Dv.sApp, Dv.itL, Dv.itR1, Dv.itR2, Dv.rngL, Dv.zipL, Dv.zipO, Dv.itZ, Dv.enuL, Dv.enuO, Dv.itEn, Dv.wipeD, Dv.keepD, Dv.tY, Dv.sAsg, Dv.sPar, Dv.sPar3, Dv.sAugI, Dv.sDrop, Dv.le_sLine, Dv.sh_non, Dv.sh_bl, Dv.sh_int, Dv.sh_tup, Dv.sh_lst, Dv.eqo_int, Dv.eqo_bl, Dv.eqo_tup, Dv.eqo_lst, Dv.eqos_nil, Dv.eqos_cons, List.all_cons, List.all_nil, Dv.beq_tt, Dv.beq_ff, Dv.beq_tf, Dv.beq_ft, List.getElem?_cons_zero, List.getElem?_cons_succ, List.getElem?_nil, List.set_cons_zero, List.set_cons_succ, List.set_nil, Option.bind_some, Option.bind_none, Option.map_some, Option.map_none, if_true, if_false, ↓reduceIte, decide_true, decide_false, Bool.false_eq_true, Bool.true_and, Bool.and_true, Bool.false_and, Bool.and_false, Bool.not_true, Bool.not_false, Bool.true_or, Bool.or_true, Bool.false_or, Bool.or_false, List.cons_append, List.nil_append, List.length_cons, List.length_nil, List.map_cons, List.map_nil, List.replicate_succ, List.replicate_zero, Nat.reduceAdd, Nat.reduceSub, Nat.reduceLT, Nat.reduceEqDiff, Nat.reduceLeDiff, Int.reduceAdd, Int.reduceSub, Int.reduceMul, Int.reduceNeg, Int.reduceLT, Int.reduceLE, Int.reduceEq, Int.reduceMod, Int.reduceDiv, Int.reduceToNat, Nat.add_zero, Nat.zero_add, List.contains_cons, List.contains_nil, Nat.reduceBEq, beq_self_eq_true, reduceCtorEq, and_true, true_and, and_false, false_and, not_true_eq_false, not_false_eq_true, c1__law_draws, frzs_ints, List.length_map, h1, h2]
      · refine ⟨L, r, sWhl_end ?_, hL⟩
        simp only [Dv.get, Dv.xV, Dv.xC, Dv.frz, Dv.frzs, Dv.flat, Dv.flats, Dv.clean, Dv.cleans, Dv.frzSlot, Dv.frz1, Dv.frzAt, Dv.put, Dv.addD, Dv.subD, Dv.mulD, Dv.fdivD, Dv.modD, Dv.negD, Dv.x2, Dv.x1, Dv.xsN, Dv.xsC, Dv.xTup, Dv.xLst, Dv.xCall, Dv.asB, Dv.tOf, Dv.tNot, Dv.tAnd, Dv.tOr, Dv.xB, Dv.xIf, Dv.cmpI, Dv.ltD, Dv.leD, Dv.gtD, Dv.geD, Dv.xAnd, Dv.xOr, Dv.xNot, Dv.sN, Dv.sSeq, Dv.sSet, Dv.sRet, Dv.sRetV, Dv.sIf, Dv.sBk, Dv.sCt, Dv.gN, Dv.gsN, Dv.gsC, Dv.gT, Dv.fnD, Dv.ixD, Dv.slD, Dv.pN, Dv.pI, Dv.xSl, Dv.lenD', Dv.intD, Dv.maxD, Dv.minD, Dv.allD, Dv.anyD, Dv.allB, Dv.listD, Dv.xF, Dv.isiD, Dv.eqD, Dv.neD, Dv.isND, Dv.notND, Dv.isN2, Dv.notN2, Dv.sApp, Dv.itL, Dv.itR1, Dv.itR2, Dv.rngL, Dv.zipL, Dv.zipO, Dv.itZ, Dv.enuL, Dv.enuO, Dv.itEn, Dv.wipeD, Dv.keepD, Dv.tY, Dv.sAsg, Dv.sPar, Dv.sPar3, Dv.sAugI, Dv.sDrop, Dv.le_sLine, Dv.sh_non, Dv.sh_bl, Dv.sh_int, Dv.sh_tup, Dv.sh_lst, Dv.eqo_int, Dv.eqo_bl, Dv.eqo_tup, Dv.eqo_lst, Dv.eqos_nil, Dv.eqos_cons, List.all_cons, List.all_nil, Dv.beq_tt, Dv.beq_ff, Dv.beq_tf, Dv.beq_ft, List.getElem?_cons_zero, List.getElem?_cons_succ, List.getElem?_nil, List.set_cons_zero, List.set_cons_succ, List.set_nil, Option.bind_some, Option.bind_none, Option.map_some, Option.map_none, if_true, if_false, ↓reduceIte, decide_true, decide_false, Bool.false_eq_true, Bool.true_and, Bool.and_true, Bool.false_and, Bool.and_false, Bool.not_true, Bool.not_false, Bool.true_or, Bool.or_true, Bool.false_or, Bool.or_false, List.cons_append, List.nil_append, List.length_cons, List.length_nil, List.map_cons, List.map_nil, List.replicate_succ, List.replicate_zero, Nat.reduceAdd, Nat.reduceSub, Nat.reduceLT, Nat.reduceEqDiff, Nat.reduceLeDiff, Int.reduceAdd, Int.reduceSub, Int.reduceMul, Int.reduceNeg, Int.reduceLT, Int.reduceLE, Int.reduceEq, Int.reduceMod, Int.reduceDiv, Int.reduceToNat, Nat.add_zero, Nat.zero_add, List.contains_cons, List.contains_nil, Nat.reduceBEq, beq_self_eq_true, reduceCtorEq, and_true, true_and, and_false, false_and, not_true_eq_false, not_false_eq_true, c1__law_draws, frzs_ints, List.length_map, h1]
  have hmx : 0 ≤ (mix * 48271 + c) % 2147483647 ∧ (mix * 48271 + c) % 2147483647 < 2147483647 := ⟨Int.emod_nonneg _ (by decide), Int.emod_lt_of_pos _ (by decide)⟩
  obtain ⟨A, habs, hA⟩ : ∃ A, absD [.int c] = some (.int A) ∧ 0 ≤ A := ⟨_, rfl, by split <;> omega⟩
  by_cases hc : A < 1000000000000000000
  · have hsz : L.length < sLine := by show L.length < 16777216; omega
    obtain ⟨L', r', h3, h4⟩ := whl _ (L ++ [p]) 0 ((mix * 48271 + c) % 2147483647) (by decide) (DrawL.mono (hL.add hp0 hp1) (by omega)) (Nat.le_refl _)
    refine ⟨L', (mix * 48271 + c) % 2147483647, some (.int r'), ?_, hmx, h4⟩
    simp only [Dv.get, Dv.xV, Dv.xC, Dv.frz, Dv.frzs, Dv.flat, Dv.flats, Dv.clean, Dv.cleans, Dv.frzSlot, Dv.frz1, Dv.frzAt, Dv.put, Dv.addD, Dv.subD, Dv.mulD, Dv.fdivD, Dv.modD, Dv.negD, Dv.x2, Dv.x1, Dv.xsN, Dv.xsC, Dv.xTup, Dv.xLst, Dv.xCall, Dv.asB, Dv.tOf, Dv.tNot, Dv.tAnd, Dv.tOr, Dv.xB, Dv.xIf, Dv.cmpI, Dv.ltD, Dv.leD, Dv.gtD, Dv.geD, Dv.xAnd, Dv.xOr, Dv.xNot, Dv.sN, Dv.sSeq, Dv.sSet, Dv.sRet, Dv.sRetV, Dv.sIf, Dv.sBk, Dv.sCt, Dv.gN, Dv.gsN, Dv.gsC, Dv.gT, Dv.fnD, Dv.ixD, Dv.slD, Dv.pN, Dv.pI, Dv.xSl, Dv.lenD', Dv.intD, Dv.maxD, Dv.minD, Dv.allD, Dv.anyD, Dv.allB, Dv.listD, Dv.xF, Dv.isiD, Dv.eqD, Dv.neD, Dv.isND, Dv.notND, Dv.isN2, Dv.notN2, Dv.sApp, Dv.itL, Dv.itR1, Dv.itR2, Dv.rngL, Dv.zipL, Dv.zipO, Dv.itZ, Dv.enuL, Dv.enuO, Dv.itEn, Dv.wipeD, Dv.keepD, Dv.tY, Dv.sAsg, Dv.sPar, Dv.sPar3, Dv.sAugI, Dv.sDrop, Dv.le_sLine, Dv.sh_non, Dv.sh_bl, Dv.sh_int, Dv.sh_tup, Dv.sh_lst, Dv.eqo_int, Dv.eqo_bl, Dv.eqo_tup, Dv.eqo_lst, Dv.eqos_nil, Dv.eqos_cons, List.all_cons, List.all_nil, Dv.beq_tt, Dv.beq_ff, Dv.beq_tf, Dv.beq_ft, List.getElem?_cons_zero, List.getElem?_cons_succ, List.getElem?_nil, List.set_cons_zero, List.set_cons_succ, List.set_nil, Option.bind_some, Option.bind_none, Option.map_some, Option.map_none, if_true, if_false, ↓reduceIte, decide_true, decide_false, Bool.false_eq_true, Bool.true_and, Bool.and_true, Bool.false_and, Bool.and_false, Bool.not_true, Bool.not_false, Bool.true_or, Bool.or_true, Bool.false_or, Bool.or_false, List.cons_append, List.nil_append, List.length_cons, List.length_nil, List.map_cons, List.map_nil, List.replicate_succ, List.replicate_zero, Nat.reduceAdd, Nat.reduceSub, Nat.reduceLT, Nat.reduceEqDiff, Nat.reduceLeDiff, Int.reduceAdd, Int.reduceSub, Int.reduceMul, Int.reduceNeg, Int.reduceLT, Int.reduceLE, Int.reduceEq, Int.reduceMod, Int.reduceDiv, Int.reduceToNat, Nat.add_zero, Nat.zero_add, List.contains_cons, List.contains_nil, Nat.reduceBEq, beq_self_eq_true, reduceCtorEq, and_true, true_and, and_false, false_and, not_true_eq_false, not_false_eq_true, b2__law_draws, frzs_ints, List.length_map, habs, hmul, hmul2, hpw, hc, hp, hsz, map_app]
    exact h3
  · obtain ⟨L', r', h3, h4⟩ := whl _ L A ((mix * 48271 + c) % 2147483647) hA (hL.mono (by omega)) (Nat.le_refl _)
    refine ⟨L', (mix * 48271 + c) % 2147483647, some (.int r'), ?_, hmx, h4⟩
    simp only [Dv.get, Dv.xV, Dv.xC, Dv.frz, Dv.frzs, Dv.flat, Dv.flats, Dv.clean, Dv.cleans, Dv.frzSlot, Dv.frz1, Dv.frzAt, Dv.put, Dv.addD, Dv.subD, Dv.mulD, Dv.fdivD, Dv.modD, Dv.negD, Dv.x2, Dv.x1, Dv.xsN, Dv.xsC, Dv.xTup, Dv.xLst, Dv.xCall, Dv.asB, Dv.tOf, Dv.tNot, Dv.tAnd, Dv.tOr, Dv.xB, Dv.xIf, Dv.cmpI, Dv.ltD, Dv.leD, Dv.gtD, Dv.geD, Dv.xAnd, Dv.xOr, Dv.xNot, Dv.sN, Dv.sSeq, Dv.sSet, Dv.sRet, Dv.sRetV, Dv.sIf, Dv.sBk, Dv.sCt, Dv.gN, Dv.gsN, Dv.gsC, Dv.gT, Dv.fnD, Dv.ixD, Dv.slD, Dv.pN, Dv.pI, Dv.xSl, Dv.lenD', Dv.intD, Dv.maxD, Dv.minD, Dv.allD, Dv.anyD, Dv.allB, Dv.listD, Dv.xF, Dv.isiD, Dv.eqD, Dv.neD, Dv.isND, Dv.notND, Dv.isN2, Dv.notN2, Dv.sApp, Dv.itL, Dv.itR1, Dv.itR2, Dv.rngL, Dv.zipL, Dv.zipO, Dv.itZ, Dv.enuL, Dv.enuO, Dv.itEn, Dv.wipeD, Dv.keepD, Dv.tY, Dv.sAsg, Dv.sPar, Dv.sPar3, Dv.sAugI, Dv.sDrop, Dv.le_sLine, Dv.sh_non, Dv.sh_bl, Dv.sh_int, Dv.sh_tup, Dv.sh_lst, Dv.eqo_int, Dv.eqo_bl, Dv.eqo_tup, Dv.eqo_lst, Dv.eqos_nil, Dv.eqos_cons, List.all_cons, List.all_nil, Dv.beq_tt, Dv.beq_ff, Dv.beq_tf, Dv.beq_ft, List.getElem?_cons_zero, List.getElem?_cons_succ, List.getElem?_nil, List.set_cons_zero, List.set_cons_succ, List.set_nil, Option.bind_some, Option.bind_none, Option.map_some, Option.map_none, if_true, if_false, ↓reduceIte, decide_true, decide_false, Bool.false_eq_true, Bool.true_and, Bool.and_true, Bool.false_and, Bool.and_false, Bool.not_true, Bool.not_false, Bool.true_or, Bool.or_true, Bool.false_or, Bool.or_false, List.cons_append, List.nil_append, List.length_cons, List.length_nil, List.map_cons, List.map_nil, List.replicate_succ, List.replicate_zero, Nat.reduceAdd, Nat.reduceSub, Nat.reduceLT, Nat.reduceEqDiff, Nat.reduceLeDiff, Int.reduceAdd, Int.reduceSub, Int.reduceMul, Int.reduceNeg, Int.reduceLT, Int.reduceLE, Int.reduceEq, Int.reduceMod, Int.reduceDiv, Int.reduceToNat, Nat.add_zero, Nat.zero_add, List.contains_cons, List.contains_nil, Nat.reduceBEq, beq_self_eq_true, reduceCtorEq, and_true, true_and, and_false, false_and, not_true_eq_false, not_false_eq_true, b2__law_draws, frzs_ints, List.length_map, habs, hmul, hmul2, hpw, hc, map_app]
    exact h3
theorem draws_eq (ns : List Int) (m : Int) (hm : 0 ≤ m) (hm2 : m ≤ 1000) : ∃ L : List Int, f__law_draws [.scr ns, .int m] = some (.lst true (L.map O.int)) ∧ m ≤ L.length ∧ DrawL (m.toNat + 63) L := by
  have hcut : (cut ns none (some 63)).length ≤ 63 := by
    unfold cut sIx
    rw [List.length_take, List.length_drop]
    simp
    omega
  -- the first loop
  have l1 : ∀ (cs : List Int) (L : List Int) (mix : Int) (o4 o5 : Option O) (N : Nat), N + cs.length ≤ 63 → (0 ≤ mix ∧ mix < 2147483647) → DrawL (m.toNat + N) L →
      ∃ L' mix' o4' o5', forD (gN 4) b2__law_draws (cs.map O.int) [some (.scr ns), some (.int m), some (.lst true (L.map O.int)), some (.int mix), o4, o5] =
        some (.nx [some (.scr ns), some (.int m), some (.lst true (L'.map O.int)), some (.int mix'), o4', o5']) ∧ (0 ≤ mix' ∧ mix' < 2147483647) ∧ DrawL (m.toNat + 63) L' := by
    intro cs
    induction cs with
    | nil => exact fun L mix o4 o5 N hN hmix hL => ⟨L, mix, o4, o5, rfl, hmix, hL.mono (by omega)⟩
    | cons c cs ih =>
      intro L mix o4 o5 N hN hmix hL
      rw [List.length_cons] at hN
      obtain ⟨L1, mix1, o1, h1, hm1, hL1⟩ := cell_eq (.scr ns) m c L mix o5 N hm hm2 (by omega) hmix hL
      obtain ⟨L2, mix2, o3, o2, h2, hm2, hL2⟩ := ih L1 mix1 (some (.int c)) o1 (N + 1) (by omega) hm1 hL1
      refine ⟨L2, mix2, o3, o2, ?_, hm2, hL2⟩
      rw [List.map_cons, forD_cons (τ1 := [some (.scr ns), some (.int m), some (.lst true (L.map O.int)), some (.int mix), some (.int c), o5]) rfl h1]
      exact h2
  -- the second one
  have l2 : ∀ (k : Nat) (L : List Int) (mix : Int) (o4 o5 : Option O), m.toNat - L.length ≤ k → (0 ≤ mix ∧ mix < 2147483647) → DrawL (m.toNat + 63) L →
      ∃ L' mix' o4' o5', sWhl c2__law_draws b3__law_draws [some (.scr ns), some (.int m), some (.lst true (L.map O.int)), some (.int mix), o4, o5] =
        some (.nx [some (.scr ns), some (.int m), some (.lst true (L'.map O.int)), some (.int mix'), o4', o5']) ∧ m ≤ L'.length ∧ DrawL (m.toNat + 63) L' := by
    intro k
    induction k with
    | zero =>
      intro L mix o4 o5 hk hmix hL
      have h2 : ¬ ((L.length : Int) < m) := by omega
      refine ⟨L, mix, o4, o5, sWhl_end ?_, by omega, hL⟩
      simp only [Dv.get, Dv.xV, Dv.xC, Dv.frz, Dv.frzs, Dv.flat, Dv.flats, Dv.clean, Dv.cleans, Dv.frzSlot, Dv.frz1, Dv.frzAt, Dv.put, Dv.addD, Dv.subD, Dv.mulD, Dv.fdivD, Dv.modD, Dv.negD, Dv.x2, Dv.x1, Dv.xsN, Dv.xsC, Dv.xTup, Dv.xLst, Dv.xCall, Dv.asB, Dv.tOf, Dv.tNot, Dv.tAnd, Dv.tOr, Dv.xB, Dv.xIf, Dv.cmpI, Dv.ltD, Dv.leD, Dv.gtD, Dv.geD, Dv.xAnd, Dv.xOr, Dv.xNot, Dv.sN, Dv.sSeq, Dv.sSet, Dv.sRet, Dv.sRetV, Dv.sIf, Dv.sBk, Dv.sCt, Dv.gN, Dv.gsN, Dv.gsC, Dv.gT, Dv.fnD, Dv.ixD, Dv.slD, Dv.pN, Dv.pI, Dv.xSl, Dv.lenD', Dv.intD, Dv.maxD, Dv.minD, Dv.allD, Dv.anyD, Dv.allB, Dv.listD, Dv.xF, Dv.isiD, Dv.eqD, Dv.neD, Dv.isND, Dv.notND, Dv.isN2, Dv.notN2, Dv.sApp, Dv.itL, Dv.itR1, Dv.itR2, Dv.rngL, Dv.zipL, Dv.zipO, Dv.itZ, Dv.enuL, Dv.enuO, Dv.itEn, Dv.wipeD, Dv.keepD, Dv.tY, Dv.sAsg, Dv.sPar, Dv.sPar3, Dv.sAugI, Dv.sDrop, Dv.le_sLine, Dv.sh_non, Dv.sh_bl, Dv.sh_int, Dv.sh_tup, Dv.sh_lst, Dv.eqo_int, Dv.eqo_bl, Dv.eqo_tup, Dv.eqo_lst, Dv.eqos_nil, Dv.eqos_cons, List.all_cons, List.all_nil, Dv.beq_tt, Dv.beq_ff, Dv.beq_tf, Dv.beq_ft, List.getElem?_cons_zero, List.getElem?_cons_succ, List.getElem?_nil, List.set_cons_zero, List.set_cons_succ, List.set_nil, Option.bind_some, Option.bind_none, Option.map_some, Option.map_none, if_true, if_false, ↓reduceIte, decide_true, decide_false, Bool.false_eq_true, Bool.true_and, Bool.and_true, Bool.false_and, Bool.and_false, Bool.not_true, Bool.not_false, Bool.true_or, Bool.or_true, Bool.false_or, Bool.or_false, List.cons_append, List.nil_append, List.length_cons, List.length_nil, List.map_cons, List.map_nil, List.replicate_succ, List.replicate_zero, Nat.reduceAdd, Nat.reduceSub, Nat.reduceLT, Nat.reduceEqDiff, Nat.reduceLeDiff, Int.reduceAdd, Int.reduceSub, Int.reduceMul, Int.reduceNeg, Int.reduceLT, Int.reduceLE, Int.reduceEq, Int.reduceMod, Int.reduceDiv, Int.reduceToNat, Nat.add_zero, Nat.zero_add, List.contains_cons, List.contains_nil, Nat.reduceBEq, beq_self_eq_true, reduceCtorEq, and_true, true_and, and_false, false_and, not_true_eq_false, not_false_eq_true, c2__law_draws, frzs_ints, List.length_map, h2]
    | succ k ih =>
      intro L mix o4 o5 hk hmix hL
      by_cases h2 : (L.length : Int) < m
      · have hmul : mulOk mix 48271 = true := mul_ok (n := 2147483647) (m := 48271) (by unfold Bd; omega) (by decide)
        obtain ⟨p, hp, hp0, hp1⟩ := power_eq ((mix * 48271 + 11) % 2147483647)
        have hsz : L.length < sLine := by show L.length < 16777216; omega
        have hmx : 0 ≤ (mix * 48271 + 11) % 2147483647 ∧ (mix * 48271 + 11) % 2147483647 < 2147483647 := ⟨Int.emod_nonneg _ (by decide), Int.emod_lt_of_pos _ (by decide)⟩
        obtain ⟨L', mix', o4', o5', h3, h4⟩ := ih (L ++ [p]) ((mix * 48271 + 11) % 2147483647) o4 o5 (by rw [List.length_append]; show m.toNat - (L.length + 1) ≤ k; omega) hmx ⟨by rw [List.length_append]; show L.length + 1 ≤ _; omega, (hL.add hp0 hp1).2⟩
        refine ⟨L', mix', o4', o5', sWhl_turn ?_ ?_ h3, h4⟩
        · simp only [Dv.get, Dv.xV, Dv.xC, Dv.frz, Dv.frzs, Dv.flat, Dv.flats, Dv.clean, Dv.cleans, Dv.frzSlot, Dv.frz1, Dv.frzAt, Dv.put, Dv.addD, Dv.subD, Dv.mulD, Dv.fdivD, Dv.modD, Dv.negD, Dv.x2, Dv.x1, Dv.xsN, Dv.xsC, Dv.xTup, Dv.xLst, Dv.xCall, Dv.asB, Dv.tOf, Dv.tNot, Dv.tAnd, Dv.tOr, Dv.xB, Dv.xIf, Dv.cmpI, Dv.ltD, Dv.leD, Dv.gtD, Dv.geD, Dv.xAnd, Dv.xOr, Dv.xNot, Dv.sN, Dv.sSeq, Dv.sSet, Dv.sRet, Dv.sRetV, Dv.sIf, Dv.sBk, Dv.sCt, Dv.gN, Dv.gsN, Dv.gsC, Dv.gT, Dv.fnD, Dv.ixD, Dv.slD, Dv.pN, Dv.pI, Dv.xSl, Dv.lenD', Dv.intD, Dv.maxD, Dv.minD, Dv.allD, Dv.anyD, Dv.allB, Dv.listD, Dv.xF, Dv.isiD, Dv.eqD, Dv.neD, Dv.isND, Dv.notND, Dv.isN2, Dv.notN2, Dv.sApp, Dv.itL, Dv.itR1, Dv.itR2, Dv.rngL, Dv.zipL, Dv.zipO, Dv.itZ, Dv.enuL, Dv.enuO, Dv.itEn, Dv.wipeD, Dv.keepD, Dv.tY, Dv.sAsg, Dv.sPar, Dv.sPar3, Dv.sAugI, Dv.sDrop, Dv.le_sLine, Dv.sh_non, Dv.sh_bl, Dv.sh_int, Dv.sh_tup, Dv.sh_lst, Dv.eqo_int, Dv.eqo_bl, Dv.eqo_tup, Dv.eqo_lst, Dv.eqos_nil, Dv.eqos_cons, List.all_cons, List.all_nil, Dv.beq_tt, Dv.beq_ff, Dv.beq_tf, Dv.beq_ft, List.getElem?_cons_zero, List.getElem?_cons_succ, List.getElem?_nil, List.set_cons_zero, List.set_cons_succ, List.set_nil, Option.bind_some, Option.bind_none, Option.map_some, Option.map_none, if_true, if_false, ↓reduceIte, decide_true, decide_false, Bool.false_eq_true, Bool.true_and, Bool.and_true, Bool.false_and, Bool.and_false, Bool.not_true, Bool.not_false, Bool.true_or, Bool.or_true, Bool.false_or, Bool.or_false, List.cons_append, List.nil_append, List.length_cons, List.length_nil, List.map_cons, List.map_nil, List.replicate_succ, List.replicate_zero, Nat.reduceAdd, Nat.reduceSub, Nat.reduceLT, Nat.reduceEqDiff, Nat.reduceLeDiff, Int.reduceAdd, Int.reduceSub, Int.reduceMul, Int.reduceNeg, Int.reduceLT, Int.reduceLE, Int.reduceEq, Int.reduceMod, Int.reduceDiv, Int.reduceToNat, Nat.add_zero, Nat.zero_add, List.contains_cons, List.contains_nil, Nat.reduceBEq, beq_self_eq_true, reduceCtorEq, and_true, true_and, and_false, false_and, not_true_eq_false, not_false_eq_true, c2__law_draws, frzs_ints, List.length_map, h2]
        · simp only [Dv.get, Dv.xV, Dv.xC, Dv.frz, Dv.frzs, Dv.flat, Dv.flats, Dv.clean, Dv.cleans, Dv.frzSlot, Dv.frz1, Dv.frzAt, Dv.put, Dv.addD, Dv.subD, Dv.mulD, Dv.fdivD, Dv.modD, Dv.negD, Dv.x2, Dv.x1, Dv.xsN, Dv.xsC, Dv.xTup, Dv.xLst, Dv.xCall, Dv.asB, Dv.tOf, Dv.tNot, Dv.tAnd, Dv.tOr, Dv.xB, Dv.xIf, Dv.cmpI, Dv.ltD, Dv.leD, Dv.gtD, Dv.geD, Dv.xAnd, Dv.xOr, Dv.xNot, Dv.sN, Dv.sSeq, Dv.sSet, Dv.sRet, Dv.sRetV, Dv.sIf, Dv.sBk, Dv.sCt, Dv.gN, Dv.gsN, Dv.gsC, Dv.gT, Dv.fnD, Dv.ixD, Dv.slD, Dv.pN, Dv.pI, Dv.xSl, Dv.lenD', Dv.intD, Dv.maxD, Dv.minD, Dv.allD, Dv.anyD, Dv.allB, Dv.listD, Dv.xF, Dv.isiD, Dv.eqD, Dv.neD, Dv.isND, Dv.notND, Dv.isN2, Dv.notN2, Dv.sApp, Dv.itL, Dv.itR1, Dv.itR2, Dv.rngL, Dv.zipL, Dv.zipO, Dv.itZ, Dv.enuL, Dv.enuO, Dv.itEn, Dv.wipeD, Dv.keepD, Dv.tY, Dv.sAsg, Dv.sPar, Dv.sPar3, Dv.sAugI, Dv.sDrop, Dv.le_sLine, Dv.sh_non, Dv.sh_bl, Dv.sh_int, Dv.sh_tup, Dv.sh_lst, Dv.eqo_int, Dv.eqo_bl, Dv.eqo_tup, Dv.eqo_lst, Dv.eqos_nil, Dv.eqos_cons, List.all_cons, List.all_nil, Dv.beq_tt, Dv.beq_ff, Dv.beq_tf, Dv.beq_ft, List.getElem?_cons_zero, List.getElem?_cons_succ, List.getElem?_nil, List.set_cons_zero, List.set_cons_succ, List.set_nil, Option.bind_some, Option.bind_none, Option.map_some, Option.map_none, if_true, if_false, ↓reduceIte, decide_true, decide_false, Bool.false_eq_true, Bool.true_and, Bool.and_true, Bool.false_and, Bool.and_false, Bool.not_true, Bool.not_false, Bool.true_or, Bool.or_true, Bool.false_or, Bool.or_false, List.cons_append, List.nil_append, List.length_cons, List.length_nil, List.map_cons, List.map_nil, List.replicate_succ, List.replicate_zero, Nat.reduceAdd, Nat.reduceSub, Nat.reduceLT, Nat.reduceEqDiff, Nat.reduceLeDiff, Int.reduceAdd, Int.reduceSub, Int.reduceMul, Int.reduceNeg, Int.reduceLT, Int.reduceLE, Int.reduceEq, Int.reduceMod, Int.reduceDiv, Int.reduceToNat, Nat.add_zero, Nat.zero_add, List.contains_cons, List.contains_nil, Nat.reduceBEq, beq_self_eq_true, reduceCtorEq, and_true, true_and, and_false, false_and, not_true_eq_false, not_false_eq_true, b3__law_draws, frzs_ints, List.length_map, hmul, hp, hsz, map_app]
      · refine ⟨L, mix, o4, o5, sWhl_end ?_, by omega, hL⟩
        simp only [Dv.get, Dv.xV, Dv.xC, Dv.frz, Dv.frzs, Dv.flat, Dv.flats, Dv.clean, Dv.cleans, Dv.frzSlot, Dv.frz1, Dv.frzAt, Dv.put, Dv.addD, Dv.subD, Dv.mulD, Dv.fdivD, Dv.modD, Dv.negD, Dv.x2, Dv.x1, Dv.xsN, Dv.xsC, Dv.xTup, Dv.xLst, Dv.xCall, Dv.asB, Dv.tOf, Dv.tNot, Dv.tAnd, Dv.tOr, Dv.xB, Dv.xIf, Dv.cmpI, Dv.ltD, Dv.leD, Dv.gtD, Dv.geD, Dv.xAnd, Dv.xOr, Dv.xNot, Dv.sN, Dv.sSeq, Dv.sSet, Dv.sRet, Dv.sRetV, Dv.sIf, Dv.sBk, Dv.sCt, Dv.gN, Dv.gsN, Dv.gsC, Dv.gT, Dv.fnD, Dv.ixD, Dv.slD, Dv.pN, Dv.pI, Dv.xSl, Dv.lenD', Dv.intD, Dv.maxD, Dv.minD, Dv.allD, Dv.anyD, Dv.allB, Dv.listD, Dv.xF, Dv.isiD, Dv.eqD, Dv.neD, Dv.isND, Dv.notND, Dv.isN2, Dv.notN2, Dv.sApp, Dv.itL, Dv.itR1, Dv.itR2, Dv.rngL, Dv.zipL, Dv.zipO, Dv.itZ, Dv.enuL, Dv.enuO, Dv.itEn, Dv.wipeD, Dv.keepD, Dv.tY, Dv.sAsg, Dv.sPar, Dv.sPar3, Dv.sAugI, Dv.sDrop, Dv.le_sLine, Dv.sh_non, Dv.sh_bl, Dv.sh_int, Dv.sh_tup, Dv.sh_lst, Dv.eqo_int, Dv.eqo_bl, Dv.eqo_tup, Dv.eqo_lst, Dv.eqos_nil, Dv.eqos_cons, List.all_cons, List.all_nil, Dv.beq_tt, Dv.beq_ff, Dv.beq_tf, Dv.beq_ft, List.getElem?_cons_zero, List.getElem?_cons_succ, List.getElem?_nil, List.set_cons_zero, List.set_cons_succ, List.set_nil, Option.bind_some, Option.bind_none, Option.map_some, Option.map_none, if_true, if_false, ↓reduceIte, decide_true, decide_false, Bool.false_eq_true, Bool.true_and, Bool.and_true, Bool.false_and, Bool.and_false, Bool.not_true, Bool.not_false, Bool.true_or, Bool.or_true, Bool.false_or, Bool.or_false, List.cons_append, List.nil_append, List.length_cons, List.length_nil, List.map_cons, List.map_nil, List.replicate_succ, List.replicate_zero, Nat.reduceAdd, Nat.reduceSub, Nat.reduceLT, Nat.reduceEqDiff, Nat.reduceLeDiff, Int.reduceAdd, Int.reduceSub, Int.reduceMul, Int.reduceNeg, Int.reduceLT, Int.reduceLE, Int.reduceEq, Int.reduceMod, Int.reduceDiv, Int.reduceToNat, Nat.add_zero, Nat.zero_add, List.contains_cons, List.contains_nil, Nat.reduceBEq, beq_self_eq_true, reduceCtorEq, and_true, true_and, and_false, false_and, not_true_eq_false, not_false_eq_true, c2__law_draws, frzs_ints, List.length_map, h2]
  obtain ⟨L1, mix1, o4, o5, h1, hm1, hL1⟩ := l1 (cut ns none (some 63)) [] 7 none none 0 (by omega) ⟨by decide, by decide⟩ ⟨Nat.zero_le _, fun x h => nomatch h⟩
  obtain ⟨L2, mix2, o4', o5', h2, h3, h4⟩ := l2 _ L1 mix1 o4 o5 (Nat.le_refl _) hm1 hL1
  refine ⟨L2, ?_, h3, h4⟩
  unfold f__law_draws s__law_draws
  simp only [Dv.get, Dv.xV, Dv.xC, Dv.frz, Dv.frzs, Dv.flat, Dv.flats, Dv.clean, Dv.cleans, Dv.frzSlot, Dv.frz1, Dv.frzAt, Dv.put, Dv.addD, Dv.subD, Dv.mulD, Dv.fdivD, Dv.modD, Dv.negD, Dv.x2, Dv.x1, Dv.xsN, Dv.xsC, Dv.xTup, Dv.xLst, Dv.xCall, Dv.asB, Dv.tOf, Dv.tNot, Dv.tAnd, Dv.tOr, Dv.xB, Dv.xIf, Dv.cmpI, Dv.ltD, Dv.leD, Dv.gtD, Dv.geD, Dv.xAnd, Dv.xOr, Dv.xNot, Dv.sN, Dv.sSeq, Dv.sSet, Dv.sRet, Dv.sRetV, Dv.sIf, Dv.sBk, Dv.sCt, Dv.gN, Dv.gsN, Dv.gsC, Dv.gT, Dv.fnD, Dv.ixD, Dv.slD, Dv.pN, Dv.pI, Dv.xSl, Dv.lenD', Dv.intD, Dv.maxD, Dv.minD, Dv.allD, Dv.anyD, Dv.allB, Dv.listD, Dv.xF, Dv.isiD, Dv.eqD, Dv.neD, Dv.isND, Dv.notND, Dv.isN2, Dv.notN2, Dv.sApp, Dv.itL, Dv.itR1, Dv.itR2, Dv.rngL, Dv.zipL, Dv.zipO, Dv.itZ, Dv.enuL, Dv.enuO, Dv.itEn, Dv.wipeD, Dv.keepD, Dv.tY, Dv.sAsg, Dv.sPar, Dv.sPar3, Dv.sAugI, Dv.sDrop, Dv.le_sLine, Dv.sh_non, Dv.sh_bl, Dv.sh_int, Dv.sh_tup, Dv.sh_lst, Dv.eqo_int, Dv.eqo_bl, Dv.eqo_tup, Dv.eqo_lst, Dv.eqos_nil, Dv.eqos_cons, List.all_cons, List.all_nil, Dv.beq_tt, Dv.beq_ff, Dv.beq_tf, Dv.beq_ft, List.getElem?_cons_zero, List.getElem?_cons_succ, List.getElem?_nil, List.set_cons_zero, List.set_cons_succ, List.set_nil, Option.bind_some, Option.bind_none, Option.map_some, Option.map_none, if_true, if_false, ↓reduceIte, decide_true, decide_false, Bool.false_eq_true, Bool.true_and, Bool.and_true, Bool.false_and, Bool.and_false, Bool.not_true, Bool.not_false, Bool.true_or, Bool.or_true, Bool.false_or, Bool.or_false, List.cons_append, List.nil_append, List.length_cons, List.length_nil, List.map_cons, List.map_nil, List.replicate_succ, List.replicate_zero, Nat.reduceAdd, Nat.reduceSub, Nat.reduceLT, Nat.reduceEqDiff, Nat.reduceLeDiff, Int.reduceAdd, Int.reduceSub, Int.reduceMul, Int.reduceNeg, Int.reduceLT, Int.reduceLE, Int.reduceEq, Int.reduceMod, Int.reduceDiv, Int.reduceToNat, Nat.add_zero, Nat.zero_add, List.contains_cons, List.contains_nil, Nat.reduceBEq, beq_self_eq_true, reduceCtorEq, and_true, true_and, and_false, false_and, not_true_eq_false, not_false_eq_true, sFor, frzs_ints]
  rw [List.map_nil] at h1
  rw [h1]
  simp only [Dv.get, Dv.xV, Dv.xC, Dv.frz, Dv.frzs, Dv.flat, Dv.flats, Dv.clean, Dv.cleans, Dv.frzSlot, Dv.frz1, Dv.frzAt, Dv.put, Dv.addD, Dv.subD, Dv.mulD, Dv.fdivD, Dv.modD, Dv.negD, Dv.x2, Dv.x1, Dv.xsN, Dv.xsC, Dv.xTup, Dv.xLst, Dv.xCall, Dv.asB, Dv.tOf, Dv.tNot, Dv.tAnd, Dv.tOr, Dv.xB, Dv.xIf, Dv.cmpI, Dv.ltD, Dv.leD, Dv.gtD, Dv.geD, Dv.xAnd, Dv.xOr, Dv.xNot, Dv.sN, Dv.sSeq, Dv.sSet, Dv.sRet, Dv.sRetV, Dv.sIf, Dv.sBk, Dv.sCt, Dv.gN, Dv.gsN, Dv.gsC, Dv.gT, Dv.fnD, Dv.ixD, Dv.slD, Dv.pN, Dv.pI, Dv.xSl, Dv.lenD', Dv.intD, Dv.maxD, Dv.minD, Dv.allD, Dv.anyD, Dv.allB, Dv.listD, Dv.xF, Dv.isiD, Dv.eqD, Dv.neD, Dv.isND, Dv.notND, Dv.isN2, Dv.notN2, Dv.sApp, Dv.itL, Dv.itR1, Dv.itR2, Dv.rngL, Dv.zipL, Dv.zipO, Dv.itZ, Dv.enuL, Dv.enuO, Dv.itEn, Dv.wipeD, Dv.keepD, Dv.tY, Dv.sAsg, Dv.sPar, Dv.sPar3, Dv.sAugI, Dv.sDrop, Dv.le_sLine, Dv.sh_non, Dv.sh_bl, Dv.sh_int, Dv.sh_tup, Dv.sh_lst, Dv.eqo_int, Dv.eqo_bl, Dv.eqo_tup, Dv.eqo_lst, Dv.eqos_nil, Dv.eqos_cons, List.all_cons, List.all_nil, Dv.beq_tt, Dv.beq_ff, Dv.beq_tf, Dv.beq_ft, List.getElem?_cons_zero, List.getElem?_cons_succ, List.getElem?_nil, List.set_cons_zero, List.set_cons_succ, List.set_nil, Option.bind_some, Option.bind_none, Option.map_some, Option.map_none, if_true, if_false, ↓reduceIte, decide_true, decide_false, Bool.false_eq_true, Bool.true_and, Bool.and_true, Bool.false_and, Bool.and_false, Bool.not_true, Bool.not_false, Bool.true_or, Bool.or_true, Bool.false_or, Bool.or_false, List.cons_append, List.nil_append, List.length_cons, List.length_nil, List.map_cons, List.map_nil, List.replicate_succ, List.replicate_zero, Nat.reduceAdd, Nat.reduceSub, Nat.reduceLT, Nat.reduceEqDiff, Nat.reduceLeDiff, Int.reduceAdd, Int.reduceSub, Int.reduceMul, Int.reduceNeg, Int.reduceLT, Int.reduceLE, Int.reduceEq, Int.reduceMod, Int.reduceDiv, Int.reduceToNat, Nat.add_zero, Nat.zero_add, List.contains_cons, List.contains_nil, Nat.reduceBEq, beq_self_eq_true, reduceCtorEq, and_true, true_and, and_false, false_and, not_true_eq_false, not_false_eq_true]
  rw [h2]
  rfl
end Sm
end
section
set_option Elab.async false
set_option linter.all false
set_option maxRecDepth 100000
namespace Sm
open Dv
theorem zip_self : ∀ (xs : List O), zipL xs xs = xs.map fun x => O.tup [x, x]
  | [] => rfl
  | x :: xs => by show O.tup [x, x] :: zipL xs xs = _; rw [zip_self xs]; rfl
theorem same_lst (n : Nat) (xs : List O) (hf : frzs xs = xs) (hl : xs.length ≤ sLine) (ih : ∀ x ∈ xs, f__law_same n [x, x] = some (.bl true)) :
    xLc [0, 1] [2, 3] (itZ (xV 0) (xV 1)) (gT 2 (gsC (gN 2) (gsC (gN 3) (gsN)))) (tY) (xCall (f__law_same n) (xsC (xV 2) (xsC (xV 3) (xsN)))) [some (.lst false xs), some (.lst false xs), none, none] = some (.lst true (List.replicate xs.length (.bl true))) ∧
    xLc [0, 1] [2, 3] (itZ (xV 0) (xV 1)) (gT 2 (gsC (gN 2) (gsC (gN 3) (gsN)))) (tY) (xCall (f__law_same n) (xsC (xV 2) (xsC (xV 3) (xsN)))) [some (.tup xs), some (.tup xs), none, none] = some (.lst true (List.replicate xs.length (.bl true))) := by
  have hx : ∀ x ∈ xs, frz x = x := fun x hx => by
    rw [frzs_eq] at hf
    obtain ⟨i, hi⟩ := List.getElem?_of_mem hx
    have := congrArg (fun l => l[i]?) hf
    simp only [List.getElem?_map, hi, Option.map_some] at this
    exact Option.some.inj this
  have hz : frzs (zipL xs xs) = xs.map fun x => O.tup [x, x] := by
    rw [zip_self, frzs_eq, List.map_map]
    apply List.map_congr_left
    intro x h
    show O.tup [frz x, frz x] = _
    rw [hx x h]
  have hzl : (zipL xs xs).length ≤ sLine := by rw [zip_self, List.length_map]; exact hl
  have key : ∀ (o : O), lcD (gT 2 (gsC (gN 2) (gsC (gN 3) gsN))) tY (xCall (f__law_same n) (xsC (xV 2) (xsC (xV 3) xsN))) (xs.map fun x => O.tup [x, x]) [some o, some o, none, none] = some (List.replicate xs.length (O.bl true)) := fun o => by
    have h := lcD_map (g := gT 2 (gsC (gN 2) (gsC (gN 3) gsN))) (e := xCall (f__law_same n) (xsC (xV 2) (xsC (xV 3) xsN))) (h := fun _ => O.bl true) (xs := xs.map fun x => O.tup [x, x]) (τ := [some o, some o, none, none]) (fun y hy => by
      obtain ⟨x, hx', rfl⟩ := List.mem_map.mp hy
      refine ⟨[some o, some o, some x, some x], rfl, ?_⟩
      simp only [Dv.get, Dv.xV, Dv.xC, Dv.frz, Dv.frzs, Dv.flat, Dv.flats, Dv.clean, Dv.cleans, Dv.frzSlot, Dv.frz1, Dv.frzAt, Dv.put, Dv.addD, Dv.subD, Dv.mulD, Dv.fdivD, Dv.modD, Dv.negD, Dv.x2, Dv.x1, Dv.xsN, Dv.xsC, Dv.xTup, Dv.xLst, Dv.xCall, Dv.asB, Dv.tOf, Dv.tNot, Dv.tAnd, Dv.tOr, Dv.xB, Dv.xIf, Dv.cmpI, Dv.ltD, Dv.leD, Dv.gtD, Dv.geD, Dv.xAnd, Dv.xOr, Dv.xNot, Dv.sN, Dv.sSeq, Dv.sSet, Dv.sRet, Dv.sRetV, Dv.sIf, Dv.sBk, Dv.sCt, Dv.gN, Dv.gsN, Dv.gsC, Dv.gT, Dv.fnD, Dv.ixD, Dv.slD, Dv.pN, Dv.pI, Dv.xSl, Dv.lenD', Dv.intD, Dv.maxD, Dv.minD, Dv.allD, Dv.anyD, Dv.allB, Dv.listD, Dv.xF, Dv.isiD, Dv.eqD, Dv.neD, Dv.isND, Dv.notND, Dv.isN2, Dv.notN2, Dv.sApp, Dv.itL, Dv.itR1, Dv.itR2, Dv.rngL, Dv.zipL, Dv.zipO, Dv.itZ, Dv.enuL, Dv.enuO, Dv.itEn, Dv.wipeD, Dv.keepD, Dv.tY, Dv.sAsg, Dv.sPar, Dv.sPar3, Dv.sAugI, Dv.sDrop, Dv.le_sLine, Dv.sh_non, Dv.sh_bl, Dv.sh_int, Dv.sh_tup, Dv.sh_lst, Dv.eqo_int, Dv.eqo_bl, Dv.eqo_tup, Dv.eqo_lst, Dv.eqos_nil, Dv.eqos_cons, List.all_cons, List.all_nil, Dv.beq_tt, Dv.beq_ff, Dv.beq_tf, Dv.beq_ft, List.getElem?_cons_zero, List.getElem?_cons_succ, List.getElem?_nil, List.set_cons_zero, List.set_cons_succ, List.set_nil, Option.bind_some, Option.bind_none, Option.map_some, Option.map_none, if_true, if_false, ↓reduceIte, decide_true, decide_false, Bool.false_eq_true, Bool.true_and, Bool.and_true, Bool.false_and, Bool.and_false, Bool.not_true, Bool.not_false, Bool.true_or, Bool.or_true, Bool.false_or, Bool.or_false, List.cons_append, List.nil_append, List.length_cons, List.length_nil, List.map_cons, List.map_nil, List.replicate_succ, List.replicate_zero, Nat.reduceAdd, Nat.reduceSub, Nat.reduceLT, Nat.reduceEqDiff, Nat.reduceLeDiff, Int.reduceAdd, Int.reduceSub, Int.reduceMul, Int.reduceNeg, Int.reduceLT, Int.reduceLE, Int.reduceEq, Int.reduceMod, Int.reduceDiv, Int.reduceToNat, Nat.add_zero, Nat.zero_add, List.contains_cons, List.contains_nil, Nat.reduceBEq, beq_self_eq_true, reduceCtorEq, and_true, true_and, and_false, false_and, not_true_eq_false, not_false_eq_true, hx x hx', ih x hx'])
    rw [h, List.map_map]
    congr 1
    exact List.eq_replicate_iff.mpr ⟨by rw [List.length_map], fun b hb => by obtain ⟨x, _, rfl⟩ := List.mem_map.mp hb; rfl⟩
  constructor
  · unfold xLc
    simp only [Dv.get, Dv.xV, Dv.xC, Dv.frz, Dv.frzs, Dv.flat, Dv.flats, Dv.clean, Dv.cleans, Dv.frzSlot, Dv.frz1, Dv.frzAt, Dv.put, Dv.addD, Dv.subD, Dv.mulD, Dv.fdivD, Dv.modD, Dv.negD, Dv.x2, Dv.x1, Dv.xsN, Dv.xsC, Dv.xTup, Dv.xLst, Dv.xCall, Dv.asB, Dv.tOf, Dv.tNot, Dv.tAnd, Dv.tOr, Dv.xB, Dv.xIf, Dv.cmpI, Dv.ltD, Dv.leD, Dv.gtD, Dv.geD, Dv.xAnd, Dv.xOr, Dv.xNot, Dv.sN, Dv.sSeq, Dv.sSet, Dv.sRet, Dv.sRetV, Dv.sIf, Dv.sBk, Dv.sCt, Dv.gN, Dv.gsN, Dv.gsC, Dv.gT, Dv.fnD, Dv.ixD, Dv.slD, Dv.pN, Dv.pI, Dv.xSl, Dv.lenD', Dv.intD, Dv.maxD, Dv.minD, Dv.allD, Dv.anyD, Dv.allB, Dv.listD, Dv.xF, Dv.isiD, Dv.eqD, Dv.neD, Dv.isND, Dv.notND, Dv.isN2, Dv.notN2, Dv.sApp, Dv.itL, Dv.itR1, Dv.itR2, Dv.rngL, Dv.zipL, Dv.zipO, Dv.itZ, Dv.enuL, Dv.enuO, Dv.itEn, Dv.wipeD, Dv.keepD, Dv.tY, Dv.sAsg, Dv.sPar, Dv.sPar3, Dv.sAugI, Dv.sDrop, Dv.le_sLine, Dv.sh_non, Dv.sh_bl, Dv.sh_int, Dv.sh_tup, Dv.sh_lst, Dv.eqo_int, Dv.eqo_bl, Dv.eqo_tup, Dv.eqo_lst, Dv.eqos_nil, Dv.eqos_cons, List.all_cons, List.all_nil, Dv.beq_tt, Dv.beq_ff, Dv.beq_tf, Dv.beq_ft, List.getElem?_cons_zero, List.getElem?_cons_succ, List.getElem?_nil, List.set_cons_zero, List.set_cons_succ, List.set_nil, Option.bind_some, Option.bind_none, Option.map_some, Option.map_none, if_true, if_false, ↓reduceIte, decide_true, decide_false, Bool.false_eq_true, Bool.true_and, Bool.and_true, Bool.false_and, Bool.and_false, Bool.not_true, Bool.not_false, Bool.true_or, Bool.or_true, Bool.false_or, Bool.or_false, List.cons_append, List.nil_append, List.length_cons, List.length_nil, List.map_cons, List.map_nil, List.replicate_succ, List.replicate_zero, Nat.reduceAdd, Nat.reduceSub, Nat.reduceLT, Nat.reduceEqDiff, Nat.reduceLeDiff, Int.reduceAdd, Int.reduceSub, Int.reduceMul, Int.reduceNeg, Int.reduceLT, Int.reduceLE, Int.reduceEq, Int.reduceMod, Int.reduceDiv, Int.reduceToNat, Nat.add_zero, Nat.zero_add, List.contains_cons, List.contains_nil, Nat.reduceBEq, beq_self_eq_true, reduceCtorEq, and_true, true_and, and_false, false_and, not_true_eq_false, not_false_eq_true, hf, hzl, hz]
    rw [key]
    rfl
  · unfold xLc
    simp only [Dv.get, Dv.xV, Dv.xC, Dv.frz, Dv.frzs, Dv.flat, Dv.flats, Dv.clean, Dv.cleans, Dv.frzSlot, Dv.frz1, Dv.frzAt, Dv.put, Dv.addD, Dv.subD, Dv.mulD, Dv.fdivD, Dv.modD, Dv.negD, Dv.x2, Dv.x1, Dv.xsN, Dv.xsC, Dv.xTup, Dv.xLst, Dv.xCall, Dv.asB, Dv.tOf, Dv.tNot, Dv.tAnd, Dv.tOr, Dv.xB, Dv.xIf, Dv.cmpI, Dv.ltD, Dv.leD, Dv.gtD, Dv.geD, Dv.xAnd, Dv.xOr, Dv.xNot, Dv.sN, Dv.sSeq, Dv.sSet, Dv.sRet, Dv.sRetV, Dv.sIf, Dv.sBk, Dv.sCt, Dv.gN, Dv.gsN, Dv.gsC, Dv.gT, Dv.fnD, Dv.ixD, Dv.slD, Dv.pN, Dv.pI, Dv.xSl, Dv.lenD', Dv.intD, Dv.maxD, Dv.minD, Dv.allD, Dv.anyD, Dv.allB, Dv.listD, Dv.xF, Dv.isiD, Dv.eqD, Dv.neD, Dv.isND, Dv.notND, Dv.isN2, Dv.notN2, Dv.sApp, Dv.itL, Dv.itR1, Dv.itR2, Dv.rngL, Dv.zipL, Dv.zipO, Dv.itZ, Dv.enuL, Dv.enuO, Dv.itEn, Dv.wipeD, Dv.keepD, Dv.tY, Dv.sAsg, Dv.sPar, Dv.sPar3, Dv.sAugI, Dv.sDrop, Dv.le_sLine, Dv.sh_non, Dv.sh_bl, Dv.sh_int, Dv.sh_tup, Dv.sh_lst, Dv.eqo_int, Dv.eqo_bl, Dv.eqo_tup, Dv.eqo_lst, Dv.eqos_nil, Dv.eqos_cons, List.all_cons, List.all_nil, Dv.beq_tt, Dv.beq_ff, Dv.beq_tf, Dv.beq_ft, List.getElem?_cons_zero, List.getElem?_cons_succ, List.getElem?_nil, List.set_cons_zero, List.set_cons_succ, List.set_nil, Option.bind_some, Option.bind_none, Option.map_some, Option.map_none, if_true, if_false, ↓reduceIte, decide_true, decide_false, Bool.false_eq_true, Bool.true_and, Bool.and_true, Bool.false_and, Bool.and_false, Bool.not_true, Bool.not_false, Bool.true_or, Bool.or_true, Bool.false_or, Bool.or_false, List.cons_append, List.nil_append, List.length_cons, List.length_nil, List.map_cons, List.map_nil, List.replicate_succ, List.replicate_zero, Nat.reduceAdd, Nat.reduceSub, Nat.reduceLT, Nat.reduceEqDiff, Nat.reduceLeDiff, Int.reduceAdd, Int.reduceSub, Int.reduceMul, Int.reduceNeg, Int.reduceLT, Int.reduceLE, Int.reduceEq, Int.reduceMod, Int.reduceDiv, Int.reduceToNat, Nat.add_zero, Nat.zero_add, List.contains_cons, List.contains_nil, Nat.reduceBEq, beq_self_eq_true, reduceCtorEq, and_true, true_and, and_false, false_and, not_true_eq_false, not_false_eq_true, hf, hzl, hz]
    rw [key]
    rfl
theorem same_frz : ∀ (n : Nat) (x : O), frz x = x → gd n x = true → n ≤ 18 → f__law_same (n + 1) [x, x] = some (.bl true) := by
  intro n
  induction n with
  | zero =>
    intro x hf h hn
    cases x with
    | tup xs => cases h
    | lst o xs => cases h
    | dK _ _ _ => cases h
    | dT _ _ _ => cases h
    | scr _ => cases h
    | kt _ => cases h
    | anc _ => cases h
    | non => rfl
    | bl b => cases b <;> rfl
    | int i =>
      have e : eqo (.int i) (.int i) = true := eqo_refl (n := 0) rfl
      unfold f__law_same s__law_same
      simp only [Dv.get, Dv.xV, Dv.xC, Dv.frz, Dv.frzs, Dv.flat, Dv.flats, Dv.clean, Dv.cleans, Dv.frzSlot, Dv.frz1, Dv.frzAt, Dv.put, Dv.addD, Dv.subD, Dv.mulD, Dv.fdivD, Dv.modD, Dv.negD, Dv.x2, Dv.x1, Dv.xsN, Dv.xsC, Dv.xTup, Dv.xLst, Dv.xCall, Dv.asB, Dv.tOf, Dv.tNot, Dv.tAnd, Dv.tOr, Dv.xB, Dv.xIf, Dv.cmpI, Dv.ltD, Dv.leD, Dv.gtD, Dv.geD, Dv.xAnd, Dv.xOr, Dv.xNot, Dv.sN, Dv.sSeq, Dv.sSet, Dv.sRet, Dv.sRetV, Dv.sIf, Dv.sBk, Dv.sCt, Dv.gN, Dv.gsN, Dv.gsC, Dv.gT, Dv.fnD, Dv.ixD, Dv.slD, Dv.pN, Dv.pI, Dv.xSl, Dv.lenD', Dv.intD, Dv.maxD, Dv.minD, Dv.allD, Dv.anyD, Dv.allB, Dv.listD, Dv.xF, Dv.isiD, Dv.eqD, Dv.neD, Dv.isND, Dv.notND, Dv.isN2, Dv.notN2, Dv.sApp, Dv.itL, Dv.itR1, Dv.itR2, Dv.rngL, Dv.zipL, Dv.zipO, Dv.itZ, Dv.enuL, Dv.enuO, Dv.itEn, Dv.wipeD, Dv.keepD, Dv.tY, Dv.sAsg, Dv.sPar, Dv.sPar3, Dv.sAugI, Dv.sDrop, Dv.le_sLine, Dv.sh_non, Dv.sh_bl, Dv.sh_int, Dv.sh_tup, Dv.sh_lst, Dv.eqo_int, Dv.eqo_bl, Dv.eqo_tup, Dv.eqo_lst, Dv.eqos_nil, Dv.eqos_cons, List.all_cons, List.all_nil, Dv.beq_tt, Dv.beq_ff, Dv.beq_tf, Dv.beq_ft, List.getElem?_cons_zero, List.getElem?_cons_succ, List.getElem?_nil, List.set_cons_zero, List.set_cons_succ, List.set_nil, Option.bind_some, Option.bind_none, Option.map_some, Option.map_none, if_true, if_false, ↓reduceIte, decide_true, decide_false, Bool.false_eq_true, Bool.true_and, Bool.and_true, Bool.false_and, Bool.and_false, Bool.not_true, Bool.not_false, Bool.true_or, Bool.or_true, Bool.false_or, Bool.or_false, List.cons_append, List.nil_append, List.length_cons, List.length_nil, List.map_cons, List.map_nil, List.replicate_succ, List.replicate_zero, Nat.reduceAdd, Nat.reduceSub, Nat.reduceLT, Nat.reduceEqDiff, Nat.reduceLeDiff, Int.reduceAdd, Int.reduceSub, Int.reduceMul, Int.reduceNeg, Int.reduceLT, Int.reduceLE, Int.reduceEq, Int.reduceMod, Int.reduceDiv, Int.reduceToNat, Nat.add_zero, Nat.zero_add, List.contains_cons, List.contains_nil, Nat.reduceBEq, beq_self_eq_true, reduceCtorEq, and_true, true_and, and_false, false_and, not_true_eq_false, not_false_eq_true, e]
    | str x =>
      have e : eqo (.str x) (.str x) = true := eqo_refl (n := 0) h
      have h2 : shO 20 (.str x) = true := gd_sh (by omega) h
      unfold f__law_same s__law_same
      simp only [Dv.get, Dv.xV, Dv.xC, Dv.frz, Dv.frzs, Dv.flat, Dv.flats, Dv.clean, Dv.cleans, Dv.frzSlot, Dv.frz1, Dv.frzAt, Dv.put, Dv.addD, Dv.subD, Dv.mulD, Dv.fdivD, Dv.modD, Dv.negD, Dv.x2, Dv.x1, Dv.xsN, Dv.xsC, Dv.xTup, Dv.xLst, Dv.xCall, Dv.asB, Dv.tOf, Dv.tNot, Dv.tAnd, Dv.tOr, Dv.xB, Dv.xIf, Dv.cmpI, Dv.ltD, Dv.leD, Dv.gtD, Dv.geD, Dv.xAnd, Dv.xOr, Dv.xNot, Dv.sN, Dv.sSeq, Dv.sSet, Dv.sRet, Dv.sRetV, Dv.sIf, Dv.sBk, Dv.sCt, Dv.gN, Dv.gsN, Dv.gsC, Dv.gT, Dv.fnD, Dv.ixD, Dv.slD, Dv.pN, Dv.pI, Dv.xSl, Dv.lenD', Dv.intD, Dv.maxD, Dv.minD, Dv.allD, Dv.anyD, Dv.allB, Dv.listD, Dv.xF, Dv.isiD, Dv.eqD, Dv.neD, Dv.isND, Dv.notND, Dv.isN2, Dv.notN2, Dv.sApp, Dv.itL, Dv.itR1, Dv.itR2, Dv.rngL, Dv.zipL, Dv.zipO, Dv.itZ, Dv.enuL, Dv.enuO, Dv.itEn, Dv.wipeD, Dv.keepD, Dv.tY, Dv.sAsg, Dv.sPar, Dv.sPar3, Dv.sAugI, Dv.sDrop, Dv.le_sLine, Dv.sh_non, Dv.sh_bl, Dv.sh_int, Dv.sh_tup, Dv.sh_lst, Dv.eqo_int, Dv.eqo_bl, Dv.eqo_tup, Dv.eqo_lst, Dv.eqos_nil, Dv.eqos_cons, List.all_cons, List.all_nil, Dv.beq_tt, Dv.beq_ff, Dv.beq_tf, Dv.beq_ft, List.getElem?_cons_zero, List.getElem?_cons_succ, List.getElem?_nil, List.set_cons_zero, List.set_cons_succ, List.set_nil, Option.bind_some, Option.bind_none, Option.map_some, Option.map_none, if_true, if_false, ↓reduceIte, decide_true, decide_false, Bool.false_eq_true, Bool.true_and, Bool.and_true, Bool.false_and, Bool.and_false, Bool.not_true, Bool.not_false, Bool.true_or, Bool.or_true, Bool.false_or, Bool.or_false, List.cons_append, List.nil_append, List.length_cons, List.length_nil, List.map_cons, List.map_nil, List.replicate_succ, List.replicate_zero, Nat.reduceAdd, Nat.reduceSub, Nat.reduceLT, Nat.reduceEqDiff, Nat.reduceLeDiff, Int.reduceAdd, Int.reduceSub, Int.reduceMul, Int.reduceNeg, Int.reduceLT, Int.reduceLE, Int.reduceEq, Int.reduceMod, Int.reduceDiv, Int.reduceToNat, Nat.add_zero, Nat.zero_add, List.contains_cons, List.contains_nil, Nat.reduceBEq, beq_self_eq_true, reduceCtorEq, and_true, true_and, and_false, false_and, not_true_eq_false, not_false_eq_true, e, h2]
  | succ n ih =>
    intro x hf h hn
    cases x with
    | dK _ _ _ => cases h
    | dT _ _ _ => cases h
    | scr _ => cases h
    | kt _ => cases h
    | anc _ => cases h
    | non => rfl
    | bl b => cases b <;> rfl
    | int i =>
      have e : eqo (.int i) (.int i) = true := eqo_refl (n := 0) rfl
      unfold f__law_same s__law_same
      simp only [Dv.get, Dv.xV, Dv.xC, Dv.frz, Dv.frzs, Dv.flat, Dv.flats, Dv.clean, Dv.cleans, Dv.frzSlot, Dv.frz1, Dv.frzAt, Dv.put, Dv.addD, Dv.subD, Dv.mulD, Dv.fdivD, Dv.modD, Dv.negD, Dv.x2, Dv.x1, Dv.xsN, Dv.xsC, Dv.xTup, Dv.xLst, Dv.xCall, Dv.asB, Dv.tOf, Dv.tNot, Dv.tAnd, Dv.tOr, Dv.xB, Dv.xIf, Dv.cmpI, Dv.ltD, Dv.leD, Dv.gtD, Dv.geD, Dv.xAnd, Dv.xOr, Dv.xNot, Dv.sN, Dv.sSeq, Dv.sSet, Dv.sRet, Dv.sRetV, Dv.sIf, Dv.sBk, Dv.sCt, Dv.gN, Dv.gsN, Dv.gsC, Dv.gT, Dv.fnD, Dv.ixD, Dv.slD, Dv.pN, Dv.pI, Dv.xSl, Dv.lenD', Dv.intD, Dv.maxD, Dv.minD, Dv.allD, Dv.anyD, Dv.allB, Dv.listD, Dv.xF, Dv.isiD, Dv.eqD, Dv.neD, Dv.isND, Dv.notND, Dv.isN2, Dv.notN2, Dv.sApp, Dv.itL, Dv.itR1, Dv.itR2, Dv.rngL, Dv.zipL, Dv.zipO, Dv.itZ, Dv.enuL, Dv.enuO, Dv.itEn, Dv.wipeD, Dv.keepD, Dv.tY, Dv.sAsg, Dv.sPar, Dv.sPar3, Dv.sAugI, Dv.sDrop, Dv.le_sLine, Dv.sh_non, Dv.sh_bl, Dv.sh_int, Dv.sh_tup, Dv.sh_lst, Dv.eqo_int, Dv.eqo_bl, Dv.eqo_tup, Dv.eqo_lst, Dv.eqos_nil, Dv.eqos_cons, List.all_cons, List.all_nil, Dv.beq_tt, Dv.beq_ff, Dv.beq_tf, Dv.beq_ft, List.getElem?_cons_zero, List.getElem?_cons_succ, List.getElem?_nil, List.set_cons_zero, List.set_cons_succ, List.set_nil, Option.bind_some, Option.bind_none, Option.map_some, Option.map_none, if_true, if_false, ↓reduceIte, decide_true, decide_false, Bool.false_eq_true, Bool.true_and, Bool.and_true, Bool.false_and, Bool.and_false, Bool.not_true, Bool.not_false, Bool.true_or, Bool.or_true, Bool.false_or, Bool.or_false, List.cons_append, List.nil_append, List.length_cons, List.length_nil, List.map_cons, List.map_nil, List.replicate_succ, List.replicate_zero, Nat.reduceAdd, Nat.reduceSub, Nat.reduceLT, Nat.reduceEqDiff, Nat.reduceLeDiff, Int.reduceAdd, Int.reduceSub, Int.reduceMul, Int.reduceNeg, Int.reduceLT, Int.reduceLE, Int.reduceEq, Int.reduceMod, Int.reduceDiv, Int.reduceToNat, Nat.add_zero, Nat.zero_add, List.contains_cons, List.contains_nil, Nat.reduceBEq, beq_self_eq_true, reduceCtorEq, and_true, true_and, and_false, false_and, not_true_eq_false, not_false_eq_true, e]
    | str x =>
      have e : eqo (.str x) (.str x) = true := eqo_refl (n := n + 1) h
      have h2 : shO 20 (.str x) = true := gd_sh (by omega) h
      unfold f__law_same s__law_same
      simp only [Dv.get, Dv.xV, Dv.xC, Dv.frz, Dv.frzs, Dv.flat, Dv.flats, Dv.clean, Dv.cleans, Dv.frzSlot, Dv.frz1, Dv.frzAt, Dv.put, Dv.addD, Dv.subD, Dv.mulD, Dv.fdivD, Dv.modD, Dv.negD, Dv.x2, Dv.x1, Dv.xsN, Dv.xsC, Dv.xTup, Dv.xLst, Dv.xCall, Dv.asB, Dv.tOf, Dv.tNot, Dv.tAnd, Dv.tOr, Dv.xB, Dv.xIf, Dv.cmpI, Dv.ltD, Dv.leD, Dv.gtD, Dv.geD, Dv.xAnd, Dv.xOr, Dv.xNot, Dv.sN, Dv.sSeq, Dv.sSet, Dv.sRet, Dv.sRetV, Dv.sIf, Dv.sBk, Dv.sCt, Dv.gN, Dv.gsN, Dv.gsC, Dv.gT, Dv.fnD, Dv.ixD, Dv.slD, Dv.pN, Dv.pI, Dv.xSl, Dv.lenD', Dv.intD, Dv.maxD, Dv.minD, Dv.allD, Dv.anyD, Dv.allB, Dv.listD, Dv.xF, Dv.isiD, Dv.eqD, Dv.neD, Dv.isND, Dv.notND, Dv.isN2, Dv.notN2, Dv.sApp, Dv.itL, Dv.itR1, Dv.itR2, Dv.rngL, Dv.zipL, Dv.zipO, Dv.itZ, Dv.enuL, Dv.enuO, Dv.itEn, Dv.wipeD, Dv.keepD, Dv.tY, Dv.sAsg, Dv.sPar, Dv.sPar3, Dv.sAugI, Dv.sDrop, Dv.le_sLine, Dv.sh_non, Dv.sh_bl, Dv.sh_int, Dv.sh_tup, Dv.sh_lst, Dv.eqo_int, Dv.eqo_bl, Dv.eqo_tup, Dv.eqo_lst, Dv.eqos_nil, Dv.eqos_cons, List.all_cons, List.all_nil, Dv.beq_tt, Dv.beq_ff, Dv.beq_tf, Dv.beq_ft, List.getElem?_cons_zero, List.getElem?_cons_succ, List.getElem?_nil, List.set_cons_zero, List.set_cons_succ, List.set_nil, Option.bind_some, Option.bind_none, Option.map_some, Option.map_none, if_true, if_false, ↓reduceIte, decide_true, decide_false, Bool.false_eq_true, Bool.true_and, Bool.and_true, Bool.false_and, Bool.and_false, Bool.not_true, Bool.not_false, Bool.true_or, Bool.or_true, Bool.false_or, Bool.or_false, List.cons_append, List.nil_append, List.length_cons, List.length_nil, List.map_cons, List.map_nil, List.replicate_succ, List.replicate_zero, Nat.reduceAdd, Nat.reduceSub, Nat.reduceLT, Nat.reduceEqDiff, Nat.reduceLeDiff, Int.reduceAdd, Int.reduceSub, Int.reduceMul, Int.reduceNeg, Int.reduceLT, Int.reduceLE, Int.reduceEq, Int.reduceMod, Int.reduceDiv, Int.reduceToNat, Nat.add_zero, Nat.zero_add, List.contains_cons, List.contains_nil, Nat.reduceBEq, beq_self_eq_true, reduceCtorEq, and_true, true_and, and_false, false_and, not_true_eq_false, not_false_eq_true, e, h2]
    | tup xs =>
      have h' : (decide (xs.length ≤ sLine) && xs.all (gd n)) = true := h
      rw [Bool.and_eq_true] at h'
      have hf' : frzs xs = xs := by have : O.tup (frzs xs) = .tup xs := hf; injection this
      have hx : ∀ x ∈ xs, frz x = x := fun x hx => by
        rw [frzs_eq] at hf'
        obtain ⟨i, hi⟩ := List.getElem?_of_mem hx
        have := congrArg (fun l => l[i]?) hf'
        simp only [List.getElem?_map, hi, Option.map_some] at this
        exact Option.some.inj this
      obtain ⟨_, k⟩ := same_lst (n + 1) xs hf' (of_decide_eq_true h'.1) fun x hx' => ih x (hx x hx') (List.all_eq_true.mp h'.2 x hx') (by omega)
      have e : eqo (.int (xs.length : Int)) (.int xs.length) = true := eqo_refl (n := 0) rfl
      have e1 : eqo (.bl true) (.bl true) = true := rfl
      have e2 : eqo (.bl false) (.bl false) = true := rfl
      unfold f__law_same s__law_same
      simp only [Dv.get, Dv.xV, Dv.xC, Dv.frz, Dv.frzs, Dv.flat, Dv.flats, Dv.clean, Dv.cleans, Dv.frzSlot, Dv.frz1, Dv.frzAt, Dv.put, Dv.addD, Dv.subD, Dv.mulD, Dv.fdivD, Dv.modD, Dv.negD, Dv.x2, Dv.x1, Dv.xsN, Dv.xsC, Dv.xTup, Dv.xLst, Dv.xCall, Dv.asB, Dv.tOf, Dv.tNot, Dv.tAnd, Dv.tOr, Dv.xB, Dv.xIf, Dv.cmpI, Dv.ltD, Dv.leD, Dv.gtD, Dv.geD, Dv.xAnd, Dv.xOr, Dv.xNot, Dv.sN, Dv.sSeq, Dv.sSet, Dv.sRet, Dv.sRetV, Dv.sIf, Dv.sBk, Dv.sCt, Dv.gN, Dv.gsN, Dv.gsC, Dv.gT, Dv.fnD, Dv.ixD, Dv.slD, Dv.pN, Dv.pI, Dv.xSl, Dv.lenD', Dv.intD, Dv.maxD, Dv.minD, Dv.allD, Dv.anyD, Dv.allB, Dv.listD, Dv.xF, Dv.isiD, Dv.eqD, Dv.neD, Dv.isND, Dv.notND, Dv.isN2, Dv.notN2, Dv.sApp, Dv.itL, Dv.itR1, Dv.itR2, Dv.rngL, Dv.zipL, Dv.zipO, Dv.itZ, Dv.enuL, Dv.enuO, Dv.itEn, Dv.wipeD, Dv.keepD, Dv.tY, Dv.sAsg, Dv.sPar, Dv.sPar3, Dv.sAugI, Dv.sDrop, Dv.le_sLine, Dv.sh_non, Dv.sh_bl, Dv.sh_int, Dv.sh_tup, Dv.sh_lst, Dv.eqo_int, Dv.eqo_bl, Dv.eqo_tup, Dv.eqo_lst, Dv.eqos_nil, Dv.eqos_cons, List.all_cons, List.all_nil, Dv.beq_tt, Dv.beq_ff, Dv.beq_tf, Dv.beq_ft, List.getElem?_cons_zero, List.getElem?_cons_succ, List.getElem?_nil, List.set_cons_zero, List.set_cons_succ, List.set_nil, Option.bind_some, Option.bind_none, Option.map_some, Option.map_none, if_true, if_false, ↓reduceIte, decide_true, decide_false, Bool.false_eq_true, Bool.true_and, Bool.and_true, Bool.false_and, Bool.and_false, Bool.not_true, Bool.not_false, Bool.true_or, Bool.or_true, Bool.false_or, Bool.or_false, List.cons_append, List.nil_append, List.length_cons, List.length_nil, List.map_cons, List.map_nil, List.replicate_succ, List.replicate_zero, Nat.reduceAdd, Nat.reduceSub, Nat.reduceLT, Nat.reduceEqDiff, Nat.reduceLeDiff, Int.reduceAdd, Int.reduceSub, Int.reduceMul, Int.reduceNeg, Int.reduceLT, Int.reduceLE, Int.reduceEq, Int.reduceMod, Int.reduceDiv, Int.reduceToNat, Nat.add_zero, Nat.zero_add, List.contains_cons, List.contains_nil, Nat.reduceBEq, beq_self_eq_true, reduceCtorEq, and_true, true_and, and_false, false_and, not_true_eq_false, not_false_eq_true, hf', k, allB_true]
      simp
    | lst o xs =>
      have h' : (decide (xs.length ≤ sLine) && xs.all (gd n)) = true := h
      rw [Bool.and_eq_true] at h'
      have hf0 : O.lst false (frzs xs) = .lst o xs := hf
      injection hf0 with ho hf'
      subst ho
      have hx : ∀ x ∈ xs, frz x = x := fun x hx => by
        rw [frzs_eq] at hf'
        obtain ⟨i, hi⟩ := List.getElem?_of_mem hx
        have := congrArg (fun l => l[i]?) hf'
        simp only [List.getElem?_map, hi, Option.map_some] at this
        exact Option.some.inj this
      obtain ⟨k, _⟩ := same_lst (n + 1) xs hf' (of_decide_eq_true h'.1) fun x hx' => ih x (hx x hx') (List.all_eq_true.mp h'.2 x hx') (by omega)
      have e : eqo (.int (xs.length : Int)) (.int xs.length) = true := eqo_refl (n := 0) rfl
      have e1 : eqo (.bl true) (.bl true) = true := rfl
      have e2 : eqo (.bl false) (.bl false) = true := rfl
      unfold f__law_same s__law_same
      simp only [Dv.get, Dv.xV, Dv.xC, Dv.frz, Dv.frzs, Dv.flat, Dv.flats, Dv.clean, Dv.cleans, Dv.frzSlot, Dv.frz1, Dv.frzAt, Dv.put, Dv.addD, Dv.subD, Dv.mulD, Dv.fdivD, Dv.modD, Dv.negD, Dv.x2, Dv.x1, Dv.xsN, Dv.xsC, Dv.xTup, Dv.xLst, Dv.xCall, Dv.asB, Dv.tOf, Dv.tNot, Dv.tAnd, Dv.tOr, Dv.xB, Dv.xIf, Dv.cmpI, Dv.ltD, Dv.leD, Dv.gtD, Dv.geD, Dv.xAnd, Dv.xOr, Dv.xNot, Dv.sN, Dv.sSeq, Dv.sSet, Dv.sRet, Dv.sRetV, Dv.sIf, Dv.sBk, Dv.sCt, Dv.gN, Dv.gsN, Dv.gsC, Dv.gT, Dv.fnD, Dv.ixD, Dv.slD, Dv.pN, Dv.pI, Dv.xSl, Dv.lenD', Dv.intD, Dv.maxD, Dv.minD, Dv.allD, Dv.anyD, Dv.allB, Dv.listD, Dv.xF, Dv.isiD, Dv.eqD, Dv.neD, Dv.isND, Dv.notND, Dv.isN2, Dv.notN2, Dv.sApp, Dv.itL, Dv.itR1, Dv.itR2, Dv.rngL, Dv.zipL, Dv.zipO, Dv.itZ, Dv.enuL, Dv.enuO, Dv.itEn, Dv.wipeD, Dv.keepD, Dv.tY, Dv.sAsg, Dv.sPar, Dv.sPar3, Dv.sAugI, Dv.sDrop, Dv.le_sLine, Dv.sh_non, Dv.sh_bl, Dv.sh_int, Dv.sh_tup, Dv.sh_lst, Dv.eqo_int, Dv.eqo_bl, Dv.eqo_tup, Dv.eqo_lst, Dv.eqos_nil, Dv.eqos_cons, List.all_cons, List.all_nil, Dv.beq_tt, Dv.beq_ff, Dv.beq_tf, Dv.beq_ft, List.getElem?_cons_zero, List.getElem?_cons_succ, List.getElem?_nil, List.set_cons_zero, List.set_cons_succ, List.set_nil, Option.bind_some, Option.bind_none, Option.map_some, Option.map_none, if_true, if_false, ↓reduceIte, decide_true, decide_false, Bool.false_eq_true, Bool.true_and, Bool.and_true, Bool.false_and, Bool.and_false, Bool.not_true, Bool.not_false, Bool.true_or, Bool.or_true, Bool.false_or, Bool.or_false, List.cons_append, List.nil_append, List.length_cons, List.length_nil, List.map_cons, List.map_nil, List.replicate_succ, List.replicate_zero, Nat.reduceAdd, Nat.reduceSub, Nat.reduceLT, Nat.reduceEqDiff, Nat.reduceLeDiff, Int.reduceAdd, Int.reduceSub, Int.reduceMul, Int.reduceNeg, Int.reduceLT, Int.reduceLE, Int.reduceEq, Int.reduceMod, Int.reduceDiv, Int.reduceToNat, Nat.add_zero, Nat.zero_add, List.contains_cons, List.contains_nil, Nat.reduceBEq, beq_self_eq_true, reduceCtorEq, and_true, true_and, and_false, false_and, not_true_eq_false, not_false_eq_true, hf', k, allB_true]
      simp
end Sm
end
section
set_option Elab.async false
set_option linter.all false
set_option maxRecDepth 100000
namespace Sm
open Dv
theorem many_eq (a b c d : Int) (hc : 0 ≤ c) (hd : 0 ≤ d) (N : Int) (h1 : c ≤ N) (h2 : d ≤ N) : ∃ m, f__law_many [.int a, .int b, .int c, .int d] = some (.int m) ∧ 0 ≤ m ∧ m ≤ N := by
  have c1 : 0 < c + 1 := by omega
  have d1 : 0 < d + 1 := by omega
  have l1 := Int.emod_nonneg a (b := c + 1) (by omega)
  have l2 := Int.emod_lt_of_pos a c1
  have l3 := Int.emod_nonneg a (b := d + 1) (by omega)
  have l4 := Int.emod_lt_of_pos a d1
  unfold f__law_many s__law_many
  by_cases h : b % 8 = 1
  · exact ⟨a % (d + 1), by simp (config := {decide := true}) only [Dv.get, Dv.xV, Dv.xC, Dv.frz, Dv.frzs, Dv.flat, Dv.flats, Dv.clean, Dv.cleans, Dv.frzSlot, Dv.frz1, Dv.frzAt, Dv.put, Dv.addD, Dv.subD, Dv.mulD, Dv.fdivD, Dv.modD, Dv.negD, Dv.x2, Dv.x1, Dv.xsN, Dv.xsC, Dv.xTup, Dv.xLst, Dv.xCall, Dv.asB, Dv.tOf, Dv.tNot, Dv.tAnd, Dv.tOr, Dv.xB, Dv.xIf, Dv.cmpI, Dv.ltD, Dv.leD, Dv.gtD, Dv.geD, Dv.xAnd, Dv.xOr, Dv.xNot, Dv.sN, Dv.sSeq, Dv.sSet, Dv.sRet, Dv.sRetV, Dv.sIf, Dv.sBk, Dv.sCt, Dv.gN, Dv.gsN, Dv.gsC, Dv.gT, Dv.fnD, Dv.ixD, Dv.slD, Dv.pN, Dv.pI, Dv.xSl, Dv.lenD', Dv.intD, Dv.maxD, Dv.minD, Dv.allD, Dv.anyD, Dv.allB, Dv.listD, Dv.xF, Dv.isiD, Dv.eqD, Dv.neD, Dv.isND, Dv.notND, Dv.isN2, Dv.notN2, Dv.sApp, Dv.itL, Dv.itR1, Dv.itR2, Dv.rngL, Dv.zipL, Dv.zipO, Dv.itZ, Dv.enuL, Dv.enuO, Dv.itEn, Dv.wipeD, Dv.keepD, Dv.tY, Dv.sAsg, Dv.sPar, Dv.sPar3, Dv.sAugI, Dv.sDrop, Dv.at_20, Dv.at_21, Dv.at_30, Dv.at_31, Dv.at_32, Dv.at_40, Dv.at_41, Dv.at_42, Dv.at_43, Dv.at_10, Dv.frzs_ints, Dv.cleans_ints, Dv.le_sLine, Dv.sh_non, Dv.sh_bl, Dv.sh_int, Dv.sh_tup, Dv.sh_lst, Dv.eqo_int, Dv.eqo_bl, Dv.eqo_tup, Dv.eqo_lst, Dv.eqos_nil, Dv.eqos_cons, List.all_cons, List.all_nil, Dv.beq_tt, Dv.beq_ff, Dv.beq_tf, Dv.beq_ft, List.getElem?_cons_zero, List.getElem?_cons_succ, List.getElem?_nil, List.set_cons_zero, List.set_cons_succ, List.set_nil, Option.bind_some, Option.bind_none, Option.map_some, Option.map_none, if_true, if_false, ↓reduceIte, decide_true, decide_false, Bool.false_eq_true, Bool.true_and, Bool.and_true, Bool.false_and, Bool.and_false, Bool.not_true, Bool.not_false, Bool.true_or, Bool.or_true, Bool.false_or, Bool.or_false, List.cons_append, List.nil_append, List.length_cons, List.length_nil, List.map_cons, List.map_nil, List.replicate_succ, List.replicate_zero, Nat.reduceAdd, Nat.reduceSub, Nat.reduceLT, Nat.reduceEqDiff, Nat.reduceLeDiff, Int.reduceAdd, Int.reduceSub, Int.reduceMul, Int.reduceNeg, Int.reduceLT, Int.reduceLE, Int.reduceEq, Int.reduceMod, Int.reduceDiv, Int.reduceToNat, Nat.add_zero, Nat.zero_add, List.contains_cons, List.contains_nil, Nat.reduceBEq, beq_self_eq_true, reduceCtorEq, and_true, true_and, and_false, false_and, not_true_eq_false, not_false_eq_true, Dv.mulOk_sz, h, d1], l3, by omega⟩
  · exact ⟨a % (c + 1), by simp (config := {decide := true}) only [Dv.get, Dv.xV, Dv.xC, Dv.frz, Dv.frzs, Dv.flat, Dv.flats, Dv.clean, Dv.cleans, Dv.frzSlot, Dv.frz1, Dv.frzAt, Dv.put, Dv.addD, Dv.subD, Dv.mulD, Dv.fdivD, Dv.modD, Dv.negD, Dv.x2, Dv.x1, Dv.xsN, Dv.xsC, Dv.xTup, Dv.xLst, Dv.xCall, Dv.asB, Dv.tOf, Dv.tNot, Dv.tAnd, Dv.tOr, Dv.xB, Dv.xIf, Dv.cmpI, Dv.ltD, Dv.leD, Dv.gtD, Dv.geD, Dv.xAnd, Dv.xOr, Dv.xNot, Dv.sN, Dv.sSeq, Dv.sSet, Dv.sRet, Dv.sRetV, Dv.sIf, Dv.sBk, Dv.sCt, Dv.gN, Dv.gsN, Dv.gsC, Dv.gT, Dv.fnD, Dv.ixD, Dv.slD, Dv.pN, Dv.pI, Dv.xSl, Dv.lenD', Dv.intD, Dv.maxD, Dv.minD, Dv.allD, Dv.anyD, Dv.allB, Dv.listD, Dv.xF, Dv.isiD, Dv.eqD, Dv.neD, Dv.isND, Dv.notND, Dv.isN2, Dv.notN2, Dv.sApp, Dv.itL, Dv.itR1, Dv.itR2, Dv.rngL, Dv.zipL, Dv.zipO, Dv.itZ, Dv.enuL, Dv.enuO, Dv.itEn, Dv.wipeD, Dv.keepD, Dv.tY, Dv.sAsg, Dv.sPar, Dv.sPar3, Dv.sAugI, Dv.sDrop, Dv.at_20, Dv.at_21, Dv.at_30, Dv.at_31, Dv.at_32, Dv.at_40, Dv.at_41, Dv.at_42, Dv.at_43, Dv.at_10, Dv.frzs_ints, Dv.cleans_ints, Dv.le_sLine, Dv.sh_non, Dv.sh_bl, Dv.sh_int, Dv.sh_tup, Dv.sh_lst, Dv.eqo_int, Dv.eqo_bl, Dv.eqo_tup, Dv.eqo_lst, Dv.eqos_nil, Dv.eqos_cons, List.all_cons, List.all_nil, Dv.beq_tt, Dv.beq_ff, Dv.beq_tf, Dv.beq_ft, List.getElem?_cons_zero, List.getElem?_cons_succ, List.getElem?_nil, List.set_cons_zero, List.set_cons_succ, List.set_nil, Option.bind_some, Option.bind_none, Option.map_some, Option.map_none, if_true, if_false, ↓reduceIte, decide_true, decide_false, Bool.false_eq_true, Bool.true_and, Bool.and_true, Bool.false_and, Bool.and_false, Bool.not_true, Bool.not_false, Bool.true_or, Bool.or_true, Bool.false_or, Bool.or_false, List.cons_append, List.nil_append, List.length_cons, List.length_nil, List.map_cons, List.map_nil, List.replicate_succ, List.replicate_zero, Nat.reduceAdd, Nat.reduceSub, Nat.reduceLT, Nat.reduceEqDiff, Nat.reduceLeDiff, Int.reduceAdd, Int.reduceSub, Int.reduceMul, Int.reduceNeg, Int.reduceLT, Int.reduceLE, Int.reduceEq, Int.reduceMod, Int.reduceDiv, Int.reduceToNat, Nat.add_zero, Nat.zero_add, List.contains_cons, List.contains_nil, Nat.reduceBEq, beq_self_eq_true, reduceCtorEq, and_true, true_and, and_false, false_and, not_true_eq_false, not_false_eq_true, Dv.mulOk_sz, h, c1], l1, by omega⟩
end Sm
end
section
set_option Elab.async false
set_option linter.all false
set_option maxRecDepth 100000
namespace Sm
open Dv
theorem enc_gdn {α : Type} {e : α → O} (n : Nat) (he : ∀ a, gd n (e a) = true) (L : List α) (h : L.length ≤ 10000) (o : Bool) : gd (n + 1) (.lst o (L.map e)) = true := by
  show (decide ((L.map e).length ≤ sLine) && (L.map e).all (gd n)) = true
  rw [Bool.and_eq_true, List.all_eq_true, List.length_map]
  refine ⟨decide_eq_true (Nat.le_trans h (by decide)), fun x hx => ?_⟩
  obtain ⟨p, _, rfl⟩ := List.mem_map.mp hx
  exact he p
theorem chs_some {G : List (List S3)} : ∃ r R, chs G = r :: R := by
  obtain ⟨q, hq, e3⟩ := least_mem (G := G)
  have h : dbt q 0 G ∈ chs G := chs_mem.mpr ⟨q, hq, rfl, e3⟩
  cases c : chs G with
  | nil => rw [c] at h; cases h
  | cons a b => exact ⟨a, b, rfl⟩
theorem chs_ok {G : List (List S3)} (hG : Gok G) (lG : G.length ≤ 40) : Rok 20000 (chs G) := by
  refine ⟨?_, fun r hr => ?_⟩
  · unfold chs
    rw [(List.mergeSort_perm _ _).length_eq]
    have h1 := (addRs_sub ((trS G).map (·.2)) []).length_le
    rw [List.nil_append, List.length_map] at h1
    have h2 : (trS G).length ≤ (rowsS G).length := List.length_filter_le _ _
    have h3 : (rowsS G).length = (cands G).length := by unfold rowsS; rw [List.length_map]
    have := (cands_ok hG lG).2
    omega
  · obtain ⟨p, _, rfl, _⟩ := chs_mem.mp hr
    have := dbt_len p 0 G
    omega
theorem appAll_rO : ∀ (D : List (List Int)), (∀ r ∈ D, r.length ≤ 20000) → appAll 0 (D.map rO) = some (D.map fun r => rO (r ++ [0]))
  | [], _ => rfl
  | r :: D, h => by
    have ih := appAll_rO D fun q hq => h q (List.mem_cons_of_mem _ hq)
    have lr := h r List.mem_cons_self
    show (if (r.map O.int).length < sLine then (appAll 0 (D.map rO)).bind fun q => some (.lst true (r.map O.int ++ [.int 0]) :: q) else none) = _
    rw [if_pos (Nat.lt_of_le_of_lt (show _ ≤ 20000 by rw [List.length_map]; exact lr) (by decide)), ih, Option.bind_some, List.map_cons]
    unfold rO
    rw [List.map_append]
    rfl
set_option maxHeartbeats 1000000 in
theorem law_true : ∀ ns : List Int, ns.length ≤ 63 → f_law [.scr ns] = some (.bl true) := by
  intro ns _
  obtain ⟨L, hL, hl, hD⟩ := draws_eq ns 270 (by decide) (by decide)
  have hC : Cells 270 L := ⟨by omega, hD.2⟩
  obtain ⟨a0, i0, _, l0, u0⟩ := hC.at 0 (by decide) (by decide)
  obtain ⟨a1, i1, _, l1, u1⟩ := hC.at 1 (by decide) (by decide)
  obtain ⟨mi, hmi, m0, m1⟩ := many_eq a0 a1 6 12 (by decide) (by decide) 12 (by decide) (by decide)
  suffices H : Ok (fun o => o = .bl true) (f_law [.scr ns]) by
    obtain ⟨o, h, rfl⟩ := H
    exact h
  unfold f_law s_law
  refine E_fn (τ := [some (.scr ns), none, none, none, none, none, none, none, none, none]) rfl rfl ?_
  refine E_set (o := .lst true (L.map O.int)) (xCall_g (xs := [.scr ns, .int 270]) rfl hL) (enc_lcl L) ?_
  refine E_set (o := .int mi) (xCall_g (xs := [.int a0, .int a1, .int 6, .int 12]) ?_ hmi) rfl ?_
  · have e0 : x2 ixD (xV 1) (xC (.int 0)) [some (.scr ns), some (.lst true (L.map O.int)), none, none, none, none, none, none, none, none] = some (.int a0) := x2_of (enc_xV rfl) (y := .int 0) rfl i0
    have e1 : x2 ixD (xV 1) (xC (.int 1)) [some (.scr ns), some (.lst true (L.map O.int)), none, none, none, none, none, none, none, none] = some (.int a1) := x2_of (enc_xV rfl) (y := .int 1) rfl i1
    show (x2 ixD (xV 1) (xC (.int 0)) [some (.scr ns), some (.lst true (L.map O.int)), none, none, none, none, none, none, none, none]).bind (fun x => (((x2 ixD (xV 1) (xC (.int 1)) [some (.scr ns), some (.lst true (L.map O.int)), none, none, none, none, none, none, none, none]).bind fun y => some (y :: [O.int 6, O.int 12])).bind fun xs => some (x :: xs))) = _
    rw [e0, e1]; rfl
  refine E_seqQ (fun τ => ∃ m : Nat, m ≤ 24 ∧ τ = [some (.scr ns), some (.lst true (L.map O.int)), some (.int m), none, none, none, none, none, none, none]) ?_ ?_
  · have c : tOf (x2 eqD (x2 modD (x2 fdivD (x2 ixD (xV 1) (xC (.int 1))) (xC (.int 8))) (xC (.int 24))) (xC (.int 1))) [some (.scr ns), some (.lst true (L.map O.int)), some (.int mi), none, none, none, none, none, none, none] = some (decide (a1 / 8 % 24 = 1)) :=
      tOf_eqI (x2_of (x := .int (a1 / 8)) (y := .int 24) (dr_div rfl i1 (by decide)) rfl (modI (by decide)))
    by_cases h : a1 / 8 % 24 = 1
    · refine ⟨_, if_t (c.trans (by rw [decide_eq_true h])) (set_cl (o := .int (13 + a0 % 12)) (x2_of (x := .int 13) (y := .int (a0 % 12)) rfl (dr_mod rfl i0 (by decide)) rfl) rfl), (13 + a0 % 12).toNat, by omega, ?_⟩
      rw [show (((13 + a0 % 12).toNat : Nat) : Int) = 13 + a0 % 12 by omega]
      rfl
    · exact ⟨_, if_f (c.trans (by rw [decide_eq_false h])) rfl, mi.toNat, by omega, by rw [show ((mi.toNat : Nat) : Int) = mi by omega]; rfl⟩
  rintro τ ⟨m, hm24, rfl⟩
  obtain ⟨G, hgr, hG, lG'⟩ := groups_eq' false (L.drop 2) m (by omega) ((hC.mono (m := 11 * m + 2) (by omega)).drop 2) ((hC.mono (m := 3 + 2) (by omega)).drop 2)
  have lG : G.length ≤ 40 := by omega
  have hch := choices_eq hG lG false
  have hdue := least_doubts_eq hG lG false
  have rok := chs_ok hG lG
  obtain ⟨c0, C0, hc0⟩ := chs_some (G := G)
  have vo : ∀ {k : Nat} {τ : Sl}, τ[k]? = some (some (.lst true (G.map gO))) → xV k τ = some (.lst false (G.map gF)) := fun {k τ} h => by
    unfold xV Dv.get; rw [h]; show some (frz (.lst true (G.map gO))) = _; rw [gl_frz]
  have vf : ∀ {k : Nat} {w : Bool} {τ : Sl}, τ[k]? = some (some (.lst w (G.map gF))) → xV k τ = some (.lst false (G.map gF)) := fun {k w τ} h => by
    unfold xV Dv.get; rw [h]; show some (frz (.lst w (G.map gF))) = _; rw [gl_frzF]
  refine E_set (o := .lst true (G.map gO)) (xCall_g (xs := [.lst true ((L.drop 2).map O.int), .int m]) (xs2 (dr_sl 2 rfl rfl) rfl) ?_) (by show (true && cleans (G.map gO)) = true; rw [cleans_gO]; rfl) ?_
  · show f__law_groups [frz (.lst true ((L.drop 2).map O.int)), .int m] = _
    rw [enc_lfr]; exact hgr
  have g3 : sSet [3] 4 (xCall f__law_least_doubts (xsC (xV 3) (xsN))) [some (.scr ns), some (.lst true (L.map O.int)), some (.int m), some (.lst true (G.map gO)), none, none, none, none, none, none] = some (.nx [some (.scr ns), some (.lst true (L.map O.int)), some (.int m), some (.lst false (G.map gF)), some (.lst true ((chs G).map lstI)), none, none, none, none, none]) := by
    refine set_nx (o := .lst true ((chs G).map lstI)) (xCall_g (xs1 (vo rfl)) (by show f__law_least_doubts [frz (.lst false (G.map gF))] = _; rw [gl_frzF]; exact hdue)) ?_
    have c : clean (.lst true ((chs G).map lstI)) = false := by rw [hc0]; rfl
    unfold Dv.put
    rw [c]
    show [some (O.scr ns), some (.lst true (L.map O.int)), some (.int m), some (frz (.lst true (G.map gO))), some (.lst true ((chs G).map lstI)), none, none, none, none, none] = _
    rw [gl_frz]
  refine E_seq g3 ?_
  refine E_set (o := .lst true (G.map gO)) (xLc_of (xs := G.map gF) (τ1 := [none, none, none, some (.lst false (G.map gF)), none, none, none, none, none, none]) (by unfold itL; rw [vf rfl]; rfl) (by rw [List.length_map]; omega) (by show [none, none, none, some (frz (.lst false (G.map gF))), none, none, none, none, none, none] = _; rw [gl_frzF]) ?_) (by show (true && cleans (G.map gO)) = true; rw [cleans_gO]; rfl) ?_
  · rw [frzs_gF]
    have := lcD_mapL (e := gF) (e' := gO) (f := id) (g := gN 9) (x := xF listE (xsC (xV 9) (xsN))) (τ := [none, none, none, some (.lst false (G.map gF)), none, none, none, none, none, none]) (A := G) fun g _ => ⟨[none, none, none, some (.lst false (G.map gF)), none, none, none, none, none, some (gF g)], rfl, xF_g (xs1 (show some (frz (gF g)) = _ by rw [frz_gF]; rfl)) (enc_lst false g)⟩
    rw [List.map_id] at this
    exact this
  refine E_seqQ (fun _ => True) ?_ fun τ _ => E_ret (o := .bl true) rfl rfl
  obtain ⟨τ', h1, _⟩ := forD_rng (g := gN 6) (b := b1_law) (fun n τ => ∃ t6 t7 t8, τ = [some (.scr ns), some (.lst true (L.map O.int)), some (.int m), some (.lst false (G.map gF)), some (.lst true ((chs G).map lstI)), some (.lst true (G.map gO)), t6, t7, t8, none]) (N := 2) (τ := [some (.scr ns), some (.lst true (L.map O.int)), some (.int m), some (.lst false (G.map gF)), some (.lst true ((chs G).map lstI)), some (.lst true (G.map gO)), none, none, none, none]) (fun n τ _ q => by
    obtain ⟨t6, t7, t8, rfl⟩ := q
    refine ⟨[some (.scr ns), some (.lst true (L.map O.int)), some (.int m), some (.lst false (G.map gF)), some (.lst true ((chs G).map lstI)), some (.lst true (G.map gO)), some (.int n), t7, t8, none], [some (.scr ns), some (.lst true (L.map O.int)), some (.int m), some (.lst false (G.map gF)), some (.lst true ((chs G).map lstI)), some (.lst true (G.map gO)), some (.int n), some (.lst true ((chs G).map fun r => rO (r ++ [0])).reverse), none, none], rfl, ?_, some (.int n), _, _, rfl⟩
    unfold b1_law
    obtain ⟨τ0, hτ0⟩ : ∃ τ0 : Sl, [some (.scr ns), some (.lst true (L.map O.int)), some (.int m), some (.lst false (G.map gF)), some (.lst true ((chs G).map lstI)), some (.lst true (G.map gO)), some (.int n), some (.lst true ((chs G).map rO)), t8, none] = τ0 := ⟨_, rfl⟩
    refine seq_nx (τ' := τ0) ?_ ?_
    · rw [← hτ0]
      exact set_cl (o := .lst true ((chs G).map rO)) (xCall_g (xs1 (vo rfl)) (by show f_choices [frz (.lst false (G.map gF))] = _; rw [gl_frzF]; exact hch)) (by show (true && cleans ((chs G).map rO)) = true; rw [cleans_rO]; rfl)
    have x7 : xV 7 τ0 = some (.lst false ((chs G).map lstI)) := by rw [← hτ0]; exact ro_xV rfl
    have x4 : xV 4 τ0 = some (.lst false ((chs G).map lstI)) := by rw [← hτ0]; exact rl_xV rfl
    have x3 : xV 3 τ0 = some (.lst false (G.map gF)) := by rw [← hτ0]; exact vf rfl
    have x5 : xV 5 τ0 = some (.lst false (G.map gF)) := by rw [← hτ0]; exact vo rfl
    have gdG : gd 11 (.lst false (G.map gF)) = true := by
      show (decide ((G.map gF).length ≤ sLine) && (G.map gF).all (gd 10)) = true
      rw [Bool.and_eq_true, List.all_eq_true, List.length_map]
      refine ⟨decide_eq_true (Nat.le_trans lG (by decide)), fun x hx => ?_⟩
      obtain ⟨g, hg, rfl⟩ := List.mem_map.mp hx
      exact enc_gdn 9 (fun _ => rfl) g (by have := (hG g hg).1; omega) false
    refine seq_nx (τ' := τ0) (if_f ?_ rfl) ?_
    · refine (tOr_of (x := false) (y := false) ((tNot_of (tOf_of (b := true) (xCall_g (xs2 x7 x4) ?_))).trans rfl) fun _ => tOf_of (x2_of x5 x3 (neD_self gdG))).trans rfl
      show f__law_same 12 [frz (.lst false ((chs G).map lstI)), frz (.lst false ((chs G).map lstI))] = _
      rw [rl_frz]
      exact same_frz 11 _ (rl_frz _ _) (gd_rows 9 false rok) (by decide)
    refine seq_nx (τ' := [some (.scr ns), some (.lst true (L.map O.int)), some (.int m), some (.lst false (G.map gF)), some (.lst true ((chs G).map lstI)), some (.lst true (G.map gO)), some (.int n), some (.lst true ((chs G).map fun r => rO (r ++ [0]))), none, none]) ?_ rfl
    rw [← hτ0]
    unfold sForApp
    show (appAll 0 ((chs G).map rO)).bind _ = _
    rw [appAll_rO _ rok.2, Option.bind_some]
    exact if_pos ⟨(by decide), (show 8 < 10 by decide)⟩) ⟨none, none, none, rfl⟩
  exact ⟨τ', (for_R1 (n := 2) rfl (by decide) rfl).trans h1, trivial⟩
end Sm
end
section
set_option Elab.async false
set_option linter.all false
set_option maxRecDepth 100000
/-! the walk, printed by gen.py -/
namespace Wk
open PySem PySem.Spec L2 Dv Sm
open PyProof.Rows hiding St
def topS (i : Nat) : Stmt := PySem.Challenge.pw_seamarks_k20_choices_told.main.body.getD i (.Pass ⟨0, 0, 0, 0⟩)
section
variable {P : Program} {w : World} {K : PySem.W.Frag} {mg : Str → Option Value} {base : Heap}
set_option maxHeartbeats 4000000 in
abbrev t__law_power : Stmt := topS 19
theorem c__law_power : FnScope ["_law_number"] ["_law_number"] (defScope t__law_power) := ⟨rfl, rfl, rfl, by decide +kernel, rfl, by decide +kernel, by decide +kernel⟩
theorem ok__law_power (D : DefF K mg "_law_power" t__law_power ["_law_number"]) (B : Blt mg)  : Ok P w K mg base 1 "_law_power" ["_law_number"] f__law_power := by
  refine ok_mk (k := 0) (N := ["_law_number"]) D c__law_power fun f cdv A outer s H E hr => ?_
  have nd := c__law_power.nd
  exact (dss_one (ds_ret (de_2 op_mod o_mod (de_2 op_pow o_pow (de_2 op_mod o_mod (de_var 0 rfl (Or.inl rfl)) de_int) de_int) de_int)))
set_option maxHeartbeats 4000000 in
abbrev t__law_draws : Stmt := topS 20
theorem c__law_draws : FnScope ["_law_script", "_law_many_here", "_law_rows", "_law_mix", "_law_cell", "_law_rest"] ["_law_script", "_law_many_here"] (defScope t__law_draws) := ⟨rfl, rfl, rfl, by decide +kernel, rfl, by decide +kernel, by decide +kernel⟩
theorem ok__law_draws (D : DefF K mg "_law_draws" t__law_draws ["_law_script", "_law_many_here"]) (B : Blt mg) (C__law_power : Ok P w K mg base 1 "_law_power" ["_law_number"] f__law_power) : Ok P w K mg base 2 "_law_draws" ["_law_script", "_law_many_here"] f__law_draws := by
  refine ok_mk (k := 1) (N := ["_law_script", "_law_many_here", "_law_rows", "_law_mix", "_law_cell", "_law_rest"]) D c__law_draws fun f cdv A outer s H E hr => ?_
  have nd := c__law_draws.nd
  exact (dss_cons (ds_set (i := 2) nd (de_lst da_nil) rfl (Or.inl rfl))
  (dss_cons (ds_set (i := 3) nd de_int rfl (Or.inl rfl))
  (dss_cons (ds_for PassesOwn.never rfl (di_seq (de_sl (de_var 0 rfl (Or.inl rfl)) dp_none (dp_some de_int))) (dg_name (i := 4) nd rfl (Or.inl rfl) (Or.inl rfl)) (dss_cons (ds_set (i := 3) nd (de_2 op_mod o_mod (de_2 r_add o_add (de_2 op_mulW o_mul (de_var 3 rfl (Or.inl rfl)) de_int) (de_var 4 rfl (Or.inl rfl))) de_int) rfl (Or.inl rfl))
  (dss_cons (ds_set (i := 5) nd (de_callB call_abs o_abs B.abs (by decide +kernel) (da_cons (de_var 4 rfl (Or.inl rfl)) da_nil)) rfl (Or.inl rfl))
  (dss_cons (ds_if (dt_cmp op_lt o_cmpI (de_var 5 rfl (Or.inl rfl)) (de_2 op_pow o_pow de_int de_int) (nomark _)) (dss_cons (ds_app 2 (de_def (C__law_power.up (by decide)) hr (da_cons (de_2 r_add o_add (de_var 4 rfl (Or.inl rfl)) (de_2 op_mulW o_mul de_int (de_callB c_len o_len B.len (by decide +kernel) (da_cons (de_var 2 rfl (Or.inl rfl)) da_nil)))) da_nil) (xs_len xs_len0)) rfl (Or.inl rfl))
  (dss_one (ds_set (i := 5) nd de_int rfl (Or.inl rfl)))) dss_nil)
  (dss_one (ds_while PassesOwn.never (dw_pt (dw_and (dt_cmp op_gt o_cmpI (de_var 5 rfl (Or.inl rfl)) de_int (nomark _)) (dw_and1 (dt_cmp op_lt o_cmpI (de_callB c_len o_len B.len (by decide +kernel) (da_cons (de_var 2 rfl (Or.inl rfl)) da_nil)) (de_var 1 rfl (Or.inl rfl)) (nomark _))))) (dss_cons (ds_app 2 (de_2 op_mod o_mod (de_var 5 rfl (Or.inl rfl)) de_int) rfl (Or.inl rfl))
  (dss_one (ds_set (i := 5) nd (de_2 op_fdivW o_fdiv (de_var 5 rfl (Or.inl rfl)) de_int) rfl (Or.inl rfl))))))))))
  (dss_cons (ds_while PassesOwn.never (dt_cmp op_lt o_cmpI (de_callB c_len o_len B.len (by decide +kernel) (da_cons (de_var 2 rfl (Or.inl rfl)) da_nil)) (de_var 1 rfl (Or.inl rfl)) (nomark _)) (dss_cons (ds_set (i := 3) nd (de_2 op_mod o_mod (de_2 r_add o_add (de_2 op_mulW o_mul (de_var 3 rfl (Or.inl rfl)) de_int) de_int) de_int) rfl (Or.inl rfl))
  (dss_one (ds_app 2 (de_def (C__law_power.up (by decide)) hr (da_cons (de_var 3 rfl (Or.inl rfl)) da_nil) (xs_len xs_len0)) rfl (Or.inl rfl)))))
  (dss_one (ds_retV 2 rfl (Or.inl rfl)))))))
set_option maxHeartbeats 4000000 in
abbrev t__law_turned : Stmt := topS 24
theorem c__law_turned : FnScope ["_law_one", "_law_other"] ["_law_one", "_law_other"] (defScope t__law_turned) := ⟨rfl, rfl, rfl, by decide +kernel, rfl, by decide +kernel, by decide +kernel⟩
theorem ok__law_turned (D : DefF K mg "_law_turned" t__law_turned ["_law_one", "_law_other"]) (B : Blt mg)  : Ok P w K mg base 1 "_law_turned" ["_law_one", "_law_other"] f__law_turned := by
  refine ok_mk (k := 0) (N := ["_law_one", "_law_other"]) D c__law_turned fun f cdv A outer s H E hr => ?_
  have nd := c__law_turned.nd
  exact (dss_one (ds_ret (de_2 op_sub o_sub (de_2 op_mulW o_mul (de_ix (de_var 0 rfl (Or.inl rfl)) de_int (fun _ _ => rfl)) (de_ix (de_var 1 rfl (Or.inl rfl)) de_int (fun _ _ => rfl))) (de_2 op_mulW o_mul (de_ix (de_var 0 rfl (Or.inl rfl)) de_int (fun _ _ => rfl)) (de_ix (de_var 1 rfl (Or.inl rfl)) de_int (fun _ _ => rfl))))))
set_option maxHeartbeats 4000000 in
abbrev t__law_way : Stmt := topS 22
theorem c__law_way : FnScope ["_law_one", "_law_two", "_law_wide", "_law_x", "_law_y"] ["_law_one", "_law_two", "_law_wide"] (defScope t__law_way) := ⟨rfl, rfl, rfl, by decide +kernel, rfl, by decide +kernel, by decide +kernel⟩
theorem ok__law_way (D : DefF K mg "_law_way" t__law_way ["_law_one", "_law_two", "_law_wide"]) (B : Blt mg)  : Ok P w K mg base 1 "_law_way" ["_law_one", "_law_two", "_law_wide"] f__law_way := by
  refine ok_mk (k := 0) (N := ["_law_one", "_law_two", "_law_wide", "_law_x", "_law_y"]) D c__law_way fun f cdv A outer s H E hr => ?_
  have nd := c__law_way.nd
  exact (dss_cons (ds_set (i := 3) nd (de_2 op_sub o_sub (de_2 op_mod o_mod (de_var 0 rfl (Or.inl rfl)) (de_2 r_add o_add (de_2 op_mulW o_mul de_int (de_var 2 rfl (Or.inl rfl))) de_int)) (de_var 2 rfl (Or.inl rfl))) rfl (Or.inl rfl))
  (dss_cons (ds_set (i := 4) nd (de_2 op_sub o_sub (de_2 op_mod o_mod (de_var 1 rfl (Or.inl rfl)) (de_2 r_add o_add (de_2 op_mulW o_mul de_int (de_var 2 rfl (Or.inl rfl))) de_int)) (de_var 2 rfl (Or.inl rfl))) rfl (Or.inl rfl))
  (dss_cons (ds_if (dw_pt (dw_and (dt_cmp (op_eqD hr.units) o_eq (de_var 3 rfl (Or.inl rfl)) de_int (nomark _)) (dw_and1 (dt_cmp (op_eqD hr.units) o_eq (de_var 4 rfl (Or.inl rfl)) de_int (nomark _))))) (dss_one (ds_set (i := 3) nd (de_2 op_sub o_sub de_int (de_2 op_mulW o_mul de_int (de_2 op_mod o_mod (de_var 0 rfl (Or.inl rfl)) de_int))) rfl (Or.inl rfl))) dss_nil)
  (dss_one (ds_ret (de_tup (da_cons (de_var 3 rfl (Or.inl rfl)) (da_cons (de_var 4 rfl (Or.inl rfl)) da_nil))))))))
set_option maxHeartbeats 4000000 in
abbrev t__law_left_pair : Stmt := topS 25
theorem c__law_left_pair : FnScope ["_law_d", "_law_wide", "_law_one", "_law_other"] ["_law_d", "_law_wide"] (defScope t__law_left_pair) := ⟨rfl, rfl, rfl, by decide +kernel, rfl, by decide +kernel, by decide +kernel⟩
theorem ok__law_left_pair (D : DefF K mg "_law_left_pair" t__law_left_pair ["_law_d", "_law_wide"]) (B : Blt mg) (C__law_turned : Ok P w K mg base 1 "_law_turned" ["_law_one", "_law_other"] f__law_turned) (C__law_way : Ok P w K mg base 1 "_law_way" ["_law_one", "_law_two", "_law_wide"] f__law_way) : Ok P w K mg base 2 "_law_left_pair" ["_law_d", "_law_wide"] f__law_left_pair := by
  refine ok_mk (k := 1) (N := ["_law_d", "_law_wide", "_law_one", "_law_other"]) D c__law_left_pair fun f cdv A outer s H E hr => ?_
  have nd := c__law_left_pair.nd
  exact (dss_cons (ds_set (i := 2) nd (de_def (C__law_way.up (by decide)) hr (da_cons (de_ix (de_var 0 rfl (Or.inl rfl)) de_int (fun _ _ => rfl)) (da_cons (de_ix (de_var 0 rfl (Or.inl rfl)) de_int (fun _ _ => rfl)) (da_cons (de_var 1 rfl (Or.inl rfl)) da_nil))) (xs_len (xs_len (xs_len xs_len0)))) rfl (Or.inl rfl))
  (dss_cons (ds_set (i := 3) nd (de_def (C__law_way.up (by decide)) hr (da_cons (de_ix (de_var 0 rfl (Or.inl rfl)) de_int (fun _ _ => rfl)) (da_cons (de_ix (de_var 0 rfl (Or.inl rfl)) de_int (fun _ _ => rfl)) (da_cons (de_var 1 rfl (Or.inl rfl)) da_nil))) (xs_len (xs_len (xs_len xs_len0)))) rfl (Or.inl rfl))
  (dss_cons (ds_if (dt_cmp (op_eqD hr.units) o_eq (de_2 op_mod o_mod (de_ix (de_var 0 rfl (Or.inl rfl)) de_int (fun _ _ => rfl)) de_int) de_int (nomark _)) (dss_one (ds_set (i := 3) nd (de_tup (da_cons (de_neg (de_ix (de_var 2 rfl (Or.inl rfl)) de_int (fun _ _ => rfl))) (da_cons (de_ix (de_var 2 rfl (Or.inl rfl)) de_int (fun _ _ => rfl)) da_nil))) rfl (Or.inl rfl))) dss_nil)
  (dss_cons (ds_if (dt_cmp op_lt o_cmpI (de_def (C__law_turned.up (by decide)) hr (da_cons (de_var 2 rfl (Or.inl rfl)) (da_cons (de_var 3 rfl (Or.inl rfl)) da_nil)) (xs_len (xs_len xs_len0))) de_int (nomark _)) (dss_one (ds_par (i := 2) (j := 3) rfl nd (da_cons (de_var 3 rfl (Or.inl rfl)) (da_cons (de_var 2 rfl (Or.inl rfl)) da_nil)))) dss_nil)
  (dss_cons (ds_if (dt_cmp (op_eqD hr.units) o_eq (de_def (C__law_turned.up (by decide)) hr (da_cons (de_var 2 rfl (Or.inl rfl)) (da_cons (de_var 3 rfl (Or.inl rfl)) da_nil)) (xs_len (xs_len xs_len0))) de_int (nomark _)) (dss_one (ds_set (i := 3) nd (de_tup (da_cons (de_neg (de_ix (de_var 2 rfl (Or.inl rfl)) de_int (fun _ _ => rfl))) (da_cons (de_ix (de_var 2 rfl (Or.inl rfl)) de_int (fun _ _ => rfl)) da_nil))) rfl (Or.inl rfl))) dss_nil)
  (dss_one (ds_ret (de_tup (da_cons (de_var 2 rfl (Or.inl rfl)) (da_cons (de_var 3 rfl (Or.inl rfl)) da_nil))))))))))
set_option maxHeartbeats 4000000 in
abbrev t__law_side : Stmt := topS 23
theorem c__law_side : FnScope ["_law_d", "_law_a", "_law_b", "_law_c"] ["_law_d"] (defScope t__law_side) := ⟨rfl, rfl, rfl, by decide +kernel, rfl, by decide +kernel, by decide +kernel⟩
theorem ok__law_side (D : DefF K mg "_law_side" t__law_side ["_law_d"]) (B : Blt mg) (C__law_way : Ok P w K mg base 1 "_law_way" ["_law_one", "_law_two", "_law_wide"] f__law_way) : Ok P w K mg base 2 "_law_side" ["_law_d"] f__law_side := by
  refine ok_mk (k := 1) (N := ["_law_d", "_law_a", "_law_b", "_law_c"]) D c__law_side fun f cdv A outer s H E hr => ?_
  have nd := c__law_side.nd
  exact (dss_cons (ds_asg (de_def (C__law_way.up (by decide)) hr (da_cons (de_ix (de_var 0 rfl (Or.inl rfl)) de_int (fun _ _ => rfl)) (da_cons (de_ix (de_var 0 rfl (Or.inl rfl)) de_int (fun _ _ => rfl)) (da_cons (de_ix (de_lst (da_cons de_int (da_cons de_int (da_cons de_int (da_cons de_int (da_cons de_int da_nil)))))) (de_2 op_mod o_mod (de_ix (de_var 0 rfl (Or.inl rfl)) de_int (fun _ _ => rfl)) de_int) (fun _ _ => rfl)) da_nil))) (xs_len (xs_len (xs_len xs_len0)))) (dg_tup rfl (dgs_cons (dg_name (i := 1) nd rfl (Or.inl rfl) (Or.inl rfl)) (dgs_cons (dg_name (i := 2) nd rfl (Or.inl rfl) (Or.inl rfl)) dgs_nil))))
  (dss_cons (ds_set (i := 3) nd (de_2 op_sub o_sub (de_2 op_mod o_mod (de_ix (de_var 0 rfl (Or.inl rfl)) de_int (fun _ _ => rfl)) de_int) de_int) rfl (Or.inl rfl))
  (dss_cons (ds_if (dt_cmp (op_eqD hr.units) o_eq (de_2 op_mod o_mod (de_ix (de_var 0 rfl (Or.inl rfl)) de_int (fun _ _ => rfl)) de_int) de_int (nomark _)) (dss_one (ds_set (i := 3) nd (de_2 op_sub o_sub (de_2 op_mod o_mod (de_ix (de_var 0 rfl (Or.inl rfl)) de_int (fun _ _ => rfl)) de_int) de_int) rfl (Or.inl rfl))) dss_nil)
  (dss_cons (ds_if (dt_cmp (op_eqD hr.units) o_eq (de_2 op_mod o_mod (de_ix (de_var 0 rfl (Or.inl rfl)) de_int (fun _ _ => rfl)) de_int) de_int (nomark _)) (dss_one (ds_set (i := 3) nd (de_2 r_add o_add (de_2 op_mulW o_mul (de_var 1 rfl (Or.inl rfl)) (de_2 op_sub o_sub (de_2 op_mod o_mod (de_ix (de_var 0 rfl (Or.inl rfl)) de_int (fun _ _ => rfl)) de_int) de_int)) (de_2 op_mulW o_mul (de_var 2 rfl (Or.inl rfl)) (de_2 op_sub o_sub (de_2 op_mod o_mod (de_2 op_fdivW o_fdiv (de_ix (de_var 0 rfl (Or.inl rfl)) de_int (fun _ _ => rfl)) de_int) de_int) de_int))) rfl (Or.inl rfl))) dss_nil)
  (dss_cons (ds_if (dt_cmp (op_eqD hr.units) o_eq (de_2 op_mod o_mod (de_2 op_fdivW o_fdiv (de_ix (de_var 0 rfl (Or.inl rfl)) de_int (fun _ _ => rfl)) de_int) de_int) de_int (nomark _)) (dss_one (ds_ret (de_tup (da_cons (de_2 op_sub o_sub (de_2 r_add o_add (de_2 op_mulW o_mul de_int (de_var 1 rfl (Or.inl rfl))) (de_2 op_mod o_mod (de_ix (de_var 0 rfl (Or.inl rfl)) de_int (fun _ _ => rfl)) de_int)) de_int) (da_cons (de_2 op_sub o_sub (de_2 r_add o_add (de_2 op_mulW o_mul de_int (de_var 2 rfl (Or.inl rfl))) (de_2 op_mod o_mod (de_ix (de_var 0 rfl (Or.inl rfl)) de_int (fun _ _ => rfl)) de_int)) de_int) (da_cons (de_2 r_add o_add (de_2 op_mulW o_mul de_int (de_var 3 rfl (Or.inl rfl))) (de_2 op_mod o_mod (de_ix (de_var 0 rfl (Or.inl rfl)) de_int (fun _ _ => rfl)) de_int)) da_nil)))))) dss_nil)
  (dss_one (ds_ret (de_tup (da_cons (de_var 1 rfl (Or.inl rfl)) (da_cons (de_var 2 rfl (Or.inl rfl)) (da_cons (de_var 3 rfl (Or.inl rfl)) da_nil)))))))))))
set_option maxHeartbeats 4000000 in
abbrev t__law_groups : Stmt := topS 26
theorem c__law_groups : FnScope ["_law_some", "_law_many_here", "_law_found", "_law_k", "_law_d", "_law_one", "_law_other", "_law_x", "_law_y"] ["_law_some", "_law_many_here"] (defScope t__law_groups) := ⟨rfl, rfl, rfl, by decide +kernel, rfl, by decide +kernel, by decide +kernel⟩
theorem ok__law_groups (D : DefF K mg "_law_groups" t__law_groups ["_law_some", "_law_many_here"]) (B : Blt mg) (C__law_left_pair : Ok P w K mg base 2 "_law_left_pair" ["_law_d", "_law_wide"] f__law_left_pair) (C__law_side : Ok P w K mg base 2 "_law_side" ["_law_d"] f__law_side) : Ok P w K mg base 3 "_law_groups" ["_law_some", "_law_many_here"] f__law_groups := by
  refine ok_mk (k := 2) (N := ["_law_some", "_law_many_here", "_law_found", "_law_k", "_law_d", "_law_one", "_law_other", "_law_x", "_law_y"]) D c__law_groups fun f cdv A outer s H E hr => ?_
  have nd := c__law_groups.nd
  exact (dss_cons (ds_set (i := 2) nd (de_lst da_nil) rfl (Or.inl rfl))
  (dss_cons (ds_for PassesOwn.never rfl (di_rng1 (ms := []) B.range (de_var 1 rfl (Or.inl rfl))) (dg_name (i := 3) nd rfl (Or.inl rfl) (Or.inl rfl)) (dss_cons (ds_set (i := 4) nd (de_sl (de_var 0 rfl (Or.inl rfl)) (dp_some (de_2 op_mulW o_mul de_int (de_var 3 rfl (Or.inl rfl)))) dp_none) rfl (Or.inl rfl))
  (dss_one (ds_if (dt_cmp (op_eqD hr.units) o_eq (de_2 op_mod o_mod (de_ix (de_var 4 rfl (Or.inl rfl)) de_int (fun _ _ => rfl)) de_int) de_int (nomark _)) (dss_one (ds_app 2 (de_lst (da_cons (de_def (C__law_side.up (by decide)) hr (da_cons (de_var 4 rfl (Or.inl rfl)) da_nil) (xs_len xs_len0)) da_nil)) rfl (Or.inl rfl))) (dss_one (ds_if (dt_cmp (op_eqD hr.units) o_eq (de_2 op_mod o_mod (de_ix (de_var 4 rfl (Or.inl rfl)) de_int (fun _ _ => rfl)) de_int) de_int (nomark _)) (dss_one (ds_app 2 (de_lst (da_cons (de_def (C__law_side.up (by decide)) hr (da_cons (de_var 4 rfl (Or.inl rfl)) da_nil) (xs_len xs_len0)) (da_cons (de_def (C__law_side.up (by decide)) hr (da_cons (de_sl (de_var 4 rfl (Or.inl rfl)) (dp_some de_int) dp_none) da_nil) (xs_len xs_len0)) da_nil))) rfl (Or.inl rfl))) (dss_cons (ds_asg (de_def (C__law_left_pair.up (by decide)) hr (da_cons (de_var 4 rfl (Or.inl rfl)) (da_cons de_int da_nil)) (xs_len (xs_len xs_len0))) (dg_tup rfl (dgs_cons (dg_name (i := 5) nd rfl (Or.inl rfl) (Or.inl rfl)) (dgs_cons (dg_name (i := 6) nd rfl (Or.inl rfl) (Or.inl rfl)) dgs_nil))))
  (dss_cons (ds_par (i := 7) (j := 8) rfl nd (da_cons (de_2 op_sub o_sub (de_2 op_mod o_mod (de_ix (de_var 4 rfl (Or.inl rfl)) de_int (fun _ _ => rfl)) de_int) de_int) (da_cons (de_2 op_sub o_sub (de_2 op_mod o_mod (de_ix (de_var 4 rfl (Or.inl rfl)) de_int (fun _ _ => rfl)) de_int) de_int) da_nil)))
  (dss_cons (ds_app 2 (de_lst (da_cons (de_tup (da_cons (de_neg (de_ix (de_var 5 rfl (Or.inl rfl)) de_int (fun _ _ => rfl))) (da_cons (de_ix (de_var 5 rfl (Or.inl rfl)) de_int (fun _ _ => rfl)) (da_cons (de_2 op_sub o_sub (de_2 op_mulW o_mul (de_ix (de_var 5 rfl (Or.inl rfl)) de_int (fun _ _ => rfl)) (de_var 8 rfl (Or.inl rfl))) (de_2 op_mulW o_mul (de_ix (de_var 5 rfl (Or.inl rfl)) de_int (fun _ _ => rfl)) (de_var 7 rfl (Or.inl rfl)))) da_nil)))) da_nil)) rfl (Or.inl rfl))
  (dss_one (ds_appAt 2 (de_neg de_int) (de_tup (da_cons (de_ix (de_var 6 rfl (Or.inl rfl)) de_int (fun _ _ => rfl)) (da_cons (de_neg (de_ix (de_var 6 rfl (Or.inl rfl)) de_int (fun _ _ => rfl))) (da_cons (de_2 op_sub o_sub (de_2 op_mulW o_mul (de_ix (de_var 6 rfl (Or.inl rfl)) de_int (fun _ _ => rfl)) (de_var 7 rfl (Or.inl rfl))) (de_2 op_mulW o_mul (de_ix (de_var 6 rfl (Or.inl rfl)) de_int (fun _ _ => rfl)) (de_var 8 rfl (Or.inl rfl)))) da_nil)))) (fun _ _ => rfl) rfl (Or.inl rfl))))))))))))
  (dss_cons (ds_if (dw_pt (dw_and (dt_cmp op_gt o_cmpI (de_var 1 rfl (Or.inl rfl)) de_int (nomark _)) (dw_and1 (dt_cmp (op_eqD hr.units) o_eq (de_2 op_mod o_mod (de_ix (de_var 0 rfl (Or.inl rfl)) de_int (fun _ _ => rfl)) de_int) de_int (nomark _))))) (dss_one (ds_setixC 2 (de_callTy (c_listE rfl) o_listE B.list (by decide +kernel) (da_cons (de_ix (de_var 2 rfl (Or.inl rfl)) (de_2 op_mod o_mod (de_ix (de_var 0 rfl (Or.inl rfl)) de_int (fun _ _ => rfl)) (de_var 1 rfl (Or.inl rfl))) (fun _ _ => rfl)) da_nil)) (de_2 op_mod o_mod (de_ix (de_var 0 rfl (Or.inl rfl)) de_int (fun _ _ => rfl)) (de_var 1 rfl (Or.inl rfl))) rfl (Or.inl rfl))) dss_nil)
  (dss_one (ds_retV 2 rfl (Or.inl rfl))))))
set_option maxHeartbeats 4000000 in
abbrev t__law_has : Stmt := topS 31
theorem c__law_has : FnScope ["_law_sides", "_law_place", "_law_x", "_law_y", "_law_w", "_law_a", "_law_b", "_law_c"] ["_law_sides", "_law_place"] (defScope t__law_has) := ⟨rfl, rfl, rfl, by decide +kernel, rfl, by decide +kernel, by decide +kernel⟩
theorem ok__law_has (D : DefF K mg "_law_has" t__law_has ["_law_sides", "_law_place"]) (B : Blt mg)  : Ok P w K mg base 1 "_law_has" ["_law_sides", "_law_place"] f__law_has := by
  refine ok_mk (k := 0) (N := ["_law_sides", "_law_place", "_law_x", "_law_y", "_law_w", "_law_a", "_law_b", "_law_c"]) D c__law_has fun f cdv A outer s H E hr => ?_
  have nd := c__law_has.nd
  exact (dss_cons (ds_asg (de_var 1 rfl (Or.inl rfl)) (dg_tup rfl (dgs_cons (dg_name (i := 2) nd rfl (Or.inr rfl) (Or.inl rfl)) (dgs_cons (dg_name (i := 3) nd rfl (Or.inr rfl) (Or.inl rfl)) (dgs_cons (dg_name (i := 4) nd rfl (Or.inr rfl) (Or.inl rfl)) dgs_nil)))))
  (dss_one (ds_ret (de_callB (cr_all rfl) o_all B.all (by decide +kernel) (da_cons (de_lc (own := [("_law_a", 5), ("_law_b", 6), ("_law_c", 7)]) (ns := [0, 2, 3, 4]) rfl nd (di_seq (de_var 0 rfl (Or.inl rfl))) (blkOk_by (N := ["_law_sides", "_law_place", "_law_x", "_law_y", "_law_w", "_law_a", "_law_b", "_law_c"]) (sc := defScope t__law_has) (by decide +kernel)) (fun _ _ _ _ _ => (dg_tup rfl (dgs_cons (dg_name (i := 5) nd rfl (Or.inl rfl) (Or.inr rfl)) (dgs_cons (dg_name (i := 6) nd rfl (Or.inl rfl) (Or.inr rfl)) (dgs_cons (dg_name (i := 7) nd rfl (Or.inl rfl) (Or.inr rfl)) dgs_nil))))) (fun _ _ _ _ _ => dts_nil) (fun _ _ _ _ _ => (de_cmp op_le o_cmpI (de_2 r_add o_add (de_2 op_mulW o_mul (de_var 5 rfl (Or.inl rfl)) (de_var 2 rfl (Or.inr (Or.inl rfl)))) (de_2 op_mulW o_mul (de_var 6 rfl (Or.inl rfl)) (de_var 3 rfl (Or.inr (Or.inl rfl))))) (de_2 op_mulW o_mul (de_var 7 rfl (Or.inl rfl)) (de_var 4 rfl (Or.inr (Or.inl rfl)))) (nomark _)))) da_nil)))))
set_option maxHeartbeats 4000000 in
abbrev t__law_doubts : Stmt := topS 32
theorem c__law_doubts : FnScope ["_law_groups_here", "_law_place", "_law_at", "_law_group"] ["_law_groups_here", "_law_place"] (defScope t__law_doubts) := ⟨rfl, rfl, rfl, by decide +kernel, rfl, by decide +kernel, by decide +kernel⟩
theorem ok__law_doubts (D : DefF K mg "_law_doubts" t__law_doubts ["_law_groups_here", "_law_place"]) (B : Blt mg) (C__law_has : Ok P w K mg base 1 "_law_has" ["_law_sides", "_law_place"] f__law_has) : Ok P w K mg base 2 "_law_doubts" ["_law_groups_here", "_law_place"] f__law_doubts := by
  refine ok_mk (k := 1) (N := ["_law_groups_here", "_law_place", "_law_at", "_law_group"]) D c__law_doubts fun f cdv A outer s H E hr => ?_
  have nd := c__law_doubts.nd
  exact (dss_one (ds_ret (de_lc (own := [("_law_at", 2), ("_law_group", 3)]) (ns := [0, 1]) rfl nd (di_enum B.enumerate (de_var 0 rfl (Or.inl rfl))) (blkOk_by (N := ["_law_groups_here", "_law_place", "_law_at", "_law_group"]) (sc := defScope t__law_doubts) (by decide +kernel)) (fun _ _ _ _ _ => (dg_tup rfl (dgs_cons (dg_name (i := 2) nd rfl (Or.inl rfl) (Or.inr rfl)) (dgs_cons (dg_name (i := 3) nd rfl (Or.inl rfl) (Or.inr rfl)) dgs_nil)))) (fun _ _ _ _ _ => (dts_one (dt_not (dt_val (de_def (C__law_has.up (by decide)) hr (da_cons (de_var 3 rfl (Or.inl rfl)) (da_cons (de_var 1 rfl (Or.inr (Or.inl rfl))) da_nil)) (xs_len (xs_len xs_len0))))))) (fun _ _ _ _ _ => (de_var 2 rfl (Or.inl rfl))))))
set_option maxHeartbeats 4000000 in
abbrev t__law_low : Stmt := topS 27
theorem c__law_low : FnScope ["_law_one", "_law_other"] ["_law_one", "_law_other"] (defScope t__law_low) := ⟨rfl, rfl, rfl, by decide +kernel, rfl, by decide +kernel, by decide +kernel⟩
theorem ok__law_low (D : DefF K mg "_law_low" t__law_low ["_law_one", "_law_other"]) (B : Blt mg)  : Ok P w K mg base 1 "_law_low" ["_law_one", "_law_other"] f__law_low := by
  refine ok_mk (k := 0) (N := ["_law_one", "_law_other"]) D c__law_low fun f cdv A outer s H E hr => ?_
  have nd := c__law_low.nd
  exact (dss_cons (ds_set (i := 0) nd (de_callB call_abs o_abs B.abs (by decide +kernel) (da_cons (de_var 0 rfl (Or.inl rfl)) da_nil)) rfl (Or.inl rfl))
  (dss_cons (ds_set (i := 1) nd (de_callB call_abs o_abs B.abs (by decide +kernel) (da_cons (de_var 1 rfl (Or.inl rfl)) da_nil)) rfl (Or.inl rfl))
  (dss_cons (ds_while PassesOwn.never (dt_cmp op_gt o_cmpI (de_var 1 rfl (Or.inl rfl)) de_int (nomark _)) (dss_one (ds_par (i := 0) (j := 1) rfl nd (da_cons (de_var 1 rfl (Or.inl rfl)) (da_cons (de_2 op_mod o_mod (de_var 0 rfl (Or.inl rfl)) (de_var 1 rfl (Or.inl rfl))) da_nil)))))
  (dss_one (ds_retV 0 rfl (Or.inl rfl))))))
set_option maxHeartbeats 4000000 in
abbrev t__law_spot_of : Stmt := topS 28
theorem c__law_spot_of : FnScope ["_law_x", "_law_y", "_law_w", "_law_by"] ["_law_x", "_law_y", "_law_w"] (defScope t__law_spot_of) := ⟨rfl, rfl, rfl, by decide +kernel, rfl, by decide +kernel, by decide +kernel⟩
theorem ok__law_spot_of (D : DefF K mg "_law_spot_of" t__law_spot_of ["_law_x", "_law_y", "_law_w"]) (B : Blt mg) (C__law_low : Ok P w K mg base 1 "_law_low" ["_law_one", "_law_other"] f__law_low) : Ok P w K mg base 2 "_law_spot_of" ["_law_x", "_law_y", "_law_w"] f__law_spot_of := by
  refine ok_mk (k := 1) (N := ["_law_x", "_law_y", "_law_w", "_law_by"]) D c__law_spot_of fun f cdv A outer s H E hr => ?_
  have nd := c__law_spot_of.nd
  exact (dss_cons (ds_if (dt_cmp op_lt o_cmpI (de_var 2 rfl (Or.inl rfl)) de_int (nomark _)) (dss_one (ds_par3 (i := 0) (j := 1) (l := 2) rfl nd (da_cons (de_neg (de_var 0 rfl (Or.inl rfl))) (da_cons (de_neg (de_var 1 rfl (Or.inl rfl))) (da_cons (de_neg (de_var 2 rfl (Or.inl rfl))) da_nil))))) dss_nil)
  (dss_cons (ds_set (i := 3) nd (de_def (C__law_low.up (by decide)) hr (da_cons (de_def (C__law_low.up (by decide)) hr (da_cons (de_var 0 rfl (Or.inl rfl)) (da_cons (de_var 1 rfl (Or.inl rfl)) da_nil)) (xs_len (xs_len xs_len0))) (da_cons (de_var 2 rfl (Or.inl rfl)) da_nil)) (xs_len (xs_len xs_len0))) rfl (Or.inl rfl))
  (dss_one (ds_ret (de_tup (da_cons (de_2 op_fdivW o_fdiv (de_var 0 rfl (Or.inl rfl)) (de_var 3 rfl (Or.inl rfl))) (da_cons (de_2 op_fdivW o_fdiv (de_var 1 rfl (Or.inl rfl)) (de_var 3 rfl (Or.inl rfl))) (da_cons (de_2 op_fdivW o_fdiv (de_var 2 rfl (Or.inl rfl)) (de_var 3 rfl (Or.inl rfl))) da_nil))))))))
set_option maxHeartbeats 4000000 in
abbrev t__law_feet : Stmt := topS 29
theorem c__law_feet : FnScope ["_law_sides", "_law_a", "_law_b", "_law_c"] ["_law_sides"] (defScope t__law_feet) := ⟨rfl, rfl, rfl, by decide +kernel, rfl, by decide +kernel, by decide +kernel⟩
theorem ok__law_feet (D : DefF K mg "_law_feet" t__law_feet ["_law_sides"]) (B : Blt mg) (C__law_spot_of : Ok P w K mg base 2 "_law_spot_of" ["_law_x", "_law_y", "_law_w"] f__law_spot_of) : Ok P w K mg base 3 "_law_feet" ["_law_sides"] f__law_feet := by
  refine ok_mk (k := 2) (N := ["_law_sides", "_law_a", "_law_b", "_law_c"]) D c__law_feet fun f cdv A outer s H E hr => ?_
  have nd := c__law_feet.nd
  exact (dss_one (ds_ret (de_lc (own := [("_law_a", 1), ("_law_b", 2), ("_law_c", 3)]) (ns := [0]) rfl nd (di_seq (de_var 0 rfl (Or.inl rfl))) (blkOk_by (N := ["_law_sides", "_law_a", "_law_b", "_law_c"]) (sc := defScope t__law_feet) (by decide +kernel)) (fun _ _ _ _ _ => (dg_tup rfl (dgs_cons (dg_name (i := 1) nd rfl (Or.inl rfl) (Or.inr rfl)) (dgs_cons (dg_name (i := 2) nd rfl (Or.inl rfl) (Or.inr rfl)) (dgs_cons (dg_name (i := 3) nd rfl (Or.inl rfl) (Or.inr rfl)) dgs_nil))))) (fun _ _ _ _ _ => dts_nil) (fun _ _ _ _ _ => (de_def (C__law_spot_of.up (by decide)) hr (da_cons (de_2 op_mulW o_mul (de_var 1 rfl (Or.inl rfl)) (de_var 3 rfl (Or.inl rfl))) (da_cons (de_2 op_mulW o_mul (de_var 2 rfl (Or.inl rfl)) (de_var 3 rfl (Or.inl rfl))) (da_cons (de_2 r_add o_add (de_2 op_mulW o_mul (de_var 1 rfl (Or.inl rfl)) (de_var 1 rfl (Or.inl rfl))) (de_2 op_mulW o_mul (de_var 2 rfl (Or.inl rfl)) (de_var 2 rfl (Or.inl rfl)))) da_nil))) (xs_len (xs_len (xs_len xs_len0))))))))
set_option maxHeartbeats 4000000 in
abbrev t__law_meet : Stmt := topS 30
theorem c__law_meet : FnScope ["_law_one", "_law_other", "_law_by"] ["_law_one", "_law_other"] (defScope t__law_meet) := ⟨rfl, rfl, rfl, by decide +kernel, rfl, by decide +kernel, by decide +kernel⟩
theorem ok__law_meet (D : DefF K mg "_law_meet" t__law_meet ["_law_one", "_law_other"]) (B : Blt mg) (C__law_spot_of : Ok P w K mg base 2 "_law_spot_of" ["_law_x", "_law_y", "_law_w"] f__law_spot_of) : Ok P w K mg base 3 "_law_meet" ["_law_one", "_law_other"] f__law_meet := by
  refine ok_mk (k := 2) (N := ["_law_one", "_law_other", "_law_by"]) D c__law_meet fun f cdv A outer s H E hr => ?_
  have nd := c__law_meet.nd
  exact (dss_cons (ds_set (i := 2) nd (de_2 op_sub o_sub (de_2 op_mulW o_mul (de_ix (de_var 0 rfl (Or.inl rfl)) de_int (fun _ _ => rfl)) (de_ix (de_var 1 rfl (Or.inl rfl)) de_int (fun _ _ => rfl))) (de_2 op_mulW o_mul (de_ix (de_var 0 rfl (Or.inl rfl)) de_int (fun _ _ => rfl)) (de_ix (de_var 1 rfl (Or.inl rfl)) de_int (fun _ _ => rfl)))) rfl (Or.inl rfl))
  (dss_cons (ds_if (dt_cmp (op_eqD hr.units) o_eq (de_var 2 rfl (Or.inl rfl)) de_int (nomark _)) (dss_one (ds_ret de_non)) dss_nil)
  (dss_one (ds_ret (de_def (C__law_spot_of.up (by decide)) hr (da_cons (de_2 op_sub o_sub (de_2 op_mulW o_mul (de_ix (de_var 0 rfl (Or.inl rfl)) de_int (fun _ _ => rfl)) (de_ix (de_var 1 rfl (Or.inl rfl)) de_int (fun _ _ => rfl))) (de_2 op_mulW o_mul (de_ix (de_var 1 rfl (Or.inl rfl)) de_int (fun _ _ => rfl)) (de_ix (de_var 0 rfl (Or.inl rfl)) de_int (fun _ _ => rfl)))) (da_cons (de_2 op_sub o_sub (de_2 op_mulW o_mul (de_ix (de_var 0 rfl (Or.inl rfl)) de_int (fun _ _ => rfl)) (de_ix (de_var 1 rfl (Or.inl rfl)) de_int (fun _ _ => rfl))) (de_2 op_mulW o_mul (de_ix (de_var 1 rfl (Or.inl rfl)) de_int (fun _ _ => rfl)) (de_ix (de_var 0 rfl (Or.inl rfl)) de_int (fun _ _ => rfl)))) (da_cons (de_var 2 rfl (Or.inl rfl)) da_nil))) (xs_len (xs_len (xs_len xs_len0))))))))
set_option maxHeartbeats 4000000 in
abbrev t__law_least_doubts : Stmt := topS 33
theorem c__law_least_doubts : FnScope ["_law_groups_here", "_law_sides", "_law_group", "_law_places", "_law_at", "_law_one", "_law_other", "_law_rows", "_law_size", "_law_found", "_law_row", "_law_place"] ["_law_groups_here"] (defScope t__law_least_doubts) := ⟨rfl, rfl, rfl, by decide +kernel, rfl, by decide +kernel, by decide +kernel⟩
theorem ok__law_least_doubts (D : DefF K mg "_law_least_doubts" t__law_least_doubts ["_law_groups_here"]) (B : Blt mg) (C__law_doubts : Ok P w K mg base 2 "_law_doubts" ["_law_groups_here", "_law_place"] f__law_doubts) (C__law_feet : Ok P w K mg base 3 "_law_feet" ["_law_sides"] f__law_feet) (C__law_meet : Ok P w K mg base 3 "_law_meet" ["_law_one", "_law_other"] f__law_meet) (C__law_turned : Ok P w K mg base 1 "_law_turned" ["_law_one", "_law_other"] f__law_turned) : Ok P w K mg base 4 "_law_least_doubts" ["_law_groups_here"] f__law_least_doubts := by
  refine ok_mk (k := 3) (N := ["_law_groups_here", "_law_sides", "_law_group", "_law_places", "_law_at", "_law_one", "_law_other", "_law_rows", "_law_size", "_law_found", "_law_row", "_law_place"]) D c__law_least_doubts fun f cdv A outer s H E hr => ?_
  have nd := c__law_least_doubts.nd
  exact (dss_cons (ds_set (i := 1) nd (de_lst da_nil) rfl (Or.inl rfl))
  (dss_cons (ds_for PassesOwn.never rfl (di_seq (de_var 0 rfl (Or.inr (Or.inl rfl)))) (dg_name (i := 2) nd rfl (Or.inl rfl) (Or.inl rfl)) (dss_one (ds_set (i := 1) nd (de_2 r_add o_add (de_var 1 rfl (Or.inl rfl)) (de_var 2 rfl (Or.inl rfl))) rfl (Or.inl rfl))))
  (dss_cons (ds_set (i := 3) nd (de_2 r_add o_add (de_lst (da_cons (de_tup (da_cons de_int (da_cons de_int (da_cons de_int da_nil)))) da_nil)) (de_def (C__law_feet.up (by decide)) hr (da_cons (de_var 1 rfl (Or.inl rfl)) da_nil) (xs_len xs_len0))) rfl (Or.inl rfl))
  (dss_cons (ds_for PassesOwn.never rfl (di_enum B.enumerate (de_var 1 rfl (Or.inl rfl))) (dg_tup rfl (dgs_cons (dg_name (i := 4) nd rfl (Or.inl rfl) (Or.inl rfl)) (dgs_cons (dg_name (i := 5) nd rfl (Or.inl rfl) (Or.inl rfl)) dgs_nil))) (dss_one (ds_for PassesOwn.never rfl (di_seq (de_sl (de_var 1 rfl (Or.inl rfl)) (dp_some (de_2 r_add o_add (de_var 4 rfl (Or.inl rfl)) de_int)) dp_none)) (dg_name (i := 6) nd rfl (Or.inl rfl) (Or.inl rfl)) (dss_one (ds_if (dt_cmp (op_neD hr.units) o_ne (de_def (C__law_turned.up (by decide)) hr (da_cons (de_var 5 rfl (Or.inl rfl)) (da_cons (de_var 6 rfl (Or.inl rfl)) da_nil)) (xs_len (xs_len xs_len0))) de_int (nomark _)) (dss_one (ds_app 3 (de_def (C__law_meet.up (by decide)) hr (da_cons (de_var 5 rfl (Or.inl rfl)) (da_cons (de_var 6 rfl (Or.inl rfl)) da_nil)) (xs_len (xs_len xs_len0))) rfl (Or.inl rfl))) dss_nil)))))
  (dss_cons (ds_set (i := 7) nd (de_callB (c_sortL (u64 hr.units)) o_sortL B.sorted (by decide +kernel) (da_cons (de_lc (own := [("_law_place", 11)]) (ns := [3, 0]) rfl nd (di_seq (de_var 3 rfl (Or.inl rfl))) (blkOk_by (N := ["_law_groups_here", "_law_sides", "_law_group", "_law_places", "_law_at", "_law_one", "_law_other", "_law_rows", "_law_size", "_law_found", "_law_row", "_law_place"]) (sc := defScope t__law_least_doubts) (by decide +kernel)) (fun _ _ _ _ _ => (dg_name (i := 11) nd rfl (Or.inl rfl) (Or.inr rfl))) (fun _ _ _ _ _ => dts_nil) (fun _ _ _ _ _ => (de_def (C__law_doubts.up (by decide)) hr (da_cons (de_var 0 rfl (Or.inr (Or.inl rfl))) (da_cons (de_var 11 rfl (Or.inl rfl)) da_nil)) (xs_len (xs_len xs_len0))))) da_nil)) rfl (Or.inl rfl))
  (dss_cons (ds_set (i := 8) nd (de_callB (c_minS rfl (u64 hr.units)) o_minS B.min (by decide +kernel) (da_cons (de_lc (own := [("_law_row", 10)]) (ns := [7]) rfl nd (di_seq (de_var 7 rfl (Or.inl rfl))) (blkOk_by (N := ["_law_groups_here", "_law_sides", "_law_group", "_law_places", "_law_at", "_law_one", "_law_other", "_law_rows", "_law_size", "_law_found", "_law_row", "_law_place"]) (sc := defScope t__law_least_doubts) (by decide +kernel)) (fun _ _ _ _ _ => (dg_name (i := 10) nd rfl (Or.inl rfl) (Or.inr rfl))) (fun _ _ _ _ _ => dts_nil) (fun _ _ _ _ _ => (de_callB c_len o_len B.len (by decide +kernel) (da_cons (de_var 10 rfl (Or.inl rfl)) da_nil)))) da_nil)) rfl (Or.inl rfl))
  (dss_cons (ds_set (i := 9) nd (de_lst da_nil) rfl (Or.inl rfl))
  (dss_cons (ds_for PassesOwn.never rfl (di_seq (de_var 7 rfl (Or.inl rfl))) (dg_name (i := 10) nd rfl (Or.inl rfl) (Or.inl rfl)) (dss_one (ds_if (dw_pt (dw_and (dt_cmp (op_eqD hr.units) o_eq (de_callB c_len o_len B.len (by decide +kernel) (da_cons (de_var 10 rfl (Or.inl rfl)) da_nil)) (de_var 8 rfl (Or.inl rfl)) (nomark _)) (dw_and1 (dt_cmp (r_notIn (u65 hr)) o_notIn (de_var 10 rfl (Or.inl rfl)) (de_var 9 rfl (Or.inl rfl)) rfl)))) (dss_one (ds_app 9 (de_var 10 rfl (Or.inl rfl)) rfl (Or.inl rfl))) dss_nil)))
  (dss_one (ds_retV 9 rfl (Or.inl rfl)))))))))))
set_option maxHeartbeats 4000000 in
abbrev t__law_many : Stmt := topS 21
theorem c__law_many : FnScope ["_law_one", "_law_two", "_law_few", "_law_most"] ["_law_one", "_law_two", "_law_few", "_law_most"] (defScope t__law_many) := ⟨rfl, rfl, rfl, by decide +kernel, rfl, by decide +kernel, by decide +kernel⟩
theorem ok__law_many (D : DefF K mg "_law_many" t__law_many ["_law_one", "_law_two", "_law_few", "_law_most"]) (B : Blt mg)  : Ok P w K mg base 1 "_law_many" ["_law_one", "_law_two", "_law_few", "_law_most"] f__law_many := by
  refine ok_mk (k := 0) (N := ["_law_one", "_law_two", "_law_few", "_law_most"]) D c__law_many fun f cdv A outer s H E hr => ?_
  have nd := c__law_many.nd
  exact (dss_cons (ds_if (dt_cmp (op_eqD hr.units) o_eq (de_2 op_mod o_mod (de_var 1 rfl (Or.inl rfl)) de_int) de_int (nomark _)) (dss_one (ds_ret (de_2 op_mod o_mod (de_var 0 rfl (Or.inl rfl)) (de_2 r_add o_add (de_var 3 rfl (Or.inl rfl)) de_int)))) dss_nil)
  (dss_one (ds_ret (de_2 op_mod o_mod (de_var 0 rfl (Or.inl rfl)) (de_2 r_add o_add (de_var 2 rfl (Or.inl rfl)) de_int)))))
set_option maxHeartbeats 4000000 in
abbrev t__law_same : Stmt := topS 34
theorem c__law_same : FnScope ["_law_told", "_law_due", "_law_one", "_law_other"] ["_law_told", "_law_due"] (defScope t__law_same) := ⟨rfl, rfl, rfl, by decide +kernel, rfl, by decide +kernel, by decide +kernel⟩
theorem ok__law_same (D : DefF K mg "_law_same" t__law_same ["_law_told", "_law_due"]) (B : Blt mg)  : ∀ j, Ok P w K mg base (0 + j) "_law_same" ["_law_told", "_law_due"] (f__law_same j)
  | 0 => (ok_none D).up (Nat.zero_le _)
  | j + 1 => by
    have C_self := ok__law_same D B  j
    refine ok_mk (N := ["_law_told", "_law_due", "_law_one", "_law_other"]) D c__law_same fun f cdv A outer s H E hr => ?_
    have nd := c__law_same.nd
    exact (dss_cons (ds_if (dw_pt (dw_or (dt_cmp (op_neD hr.units) o_ne (de_isi (T := Ty5.bool) (de_var 0 rfl (Or.inl rfl)) B.isinstance (by decide +kernel) B.bool (by decide +kernel)) (de_isi (T := Ty5.bool) (de_var 1 rfl (Or.inl rfl)) B.isinstance (by decide +kernel) B.bool (by decide +kernel)) (nomark _)) (dw_or1 (dt_cmp (op_neD hr.units) o_ne (de_isi (T := Ty5.int) (de_var 0 rfl (Or.inl rfl)) B.isinstance (by decide +kernel) B.int (by decide +kernel)) (de_isi (T := Ty5.int) (de_var 1 rfl (Or.inl rfl)) B.isinstance (by decide +kernel) B.int (by decide +kernel)) (nomark _))))) (dss_one (ds_ret de_bl)) dss_nil)
  (dss_cons (ds_if (dw_pt (dw_or (dt_cmp (op_neD hr.units) o_ne (de_isi (T := Ty5.list) (de_var 0 rfl (Or.inl rfl)) B.isinstance (by decide +kernel) B.list (by decide +kernel)) (de_isi (T := Ty5.list) (de_var 1 rfl (Or.inl rfl)) B.isinstance (by decide +kernel) B.list (by decide +kernel)) (nomark _)) (dw_or1 (dt_cmp (op_neD hr.units) o_ne (de_isi (T := Ty5.tuple) (de_var 0 rfl (Or.inl rfl)) B.isinstance (by decide +kernel) B.tuple (by decide +kernel)) (de_isi (T := Ty5.tuple) (de_var 1 rfl (Or.inl rfl)) B.isinstance (by decide +kernel) B.tuple (by decide +kernel)) (nomark _))))) (dss_one (ds_ret de_bl)) dss_nil)
  (dss_cons (ds_if (dw_pt (dw_and (dt_not (dt_val (de_isi (T := Ty5.list) (de_var 1 rfl (Or.inl rfl)) B.isinstance (by decide +kernel) B.list (by decide +kernel)))) (dw_and1 (dt_not (dt_val (de_isi (T := Ty5.tuple) (de_var 1 rfl (Or.inl rfl)) B.isinstance (by decide +kernel) B.tuple (by decide +kernel))))))) (dss_one (ds_ret (de_and (de_cmp (op_eqD hr.units) o_eq (de_isi (T := Ty5.str) (de_var 0 rfl (Or.inl rfl)) B.isinstance (by decide +kernel) B.str (by decide +kernel)) (de_isi (T := Ty5.str) (de_var 1 rfl (Or.inl rfl)) B.isinstance (by decide +kernel) B.str (by decide +kernel)) (nomark _)) (de_one (de_cmp (op_eqD hr.units) o_eq (de_var 0 rfl (Or.inl rfl)) (de_var 1 rfl (Or.inl rfl)) (nomark _)))))) dss_nil)
  (dss_one (ds_ret (de_and (de_cmp (op_eqD hr.units) o_eq (de_callB c_len o_len B.len (by decide +kernel) (da_cons (de_var 0 rfl (Or.inl rfl)) da_nil)) (de_callB c_len o_len B.len (by decide +kernel) (da_cons (de_var 1 rfl (Or.inl rfl)) da_nil)) (nomark _)) (de_one (de_callB (cr_all rfl) o_all B.all (by decide +kernel) (da_cons (de_lc (own := [("_law_one", 2), ("_law_other", 3)]) (ns := [0, 1]) rfl nd (di_zip B.zip (de_var 0 rfl (Or.inl rfl)) (de_var 1 rfl (Or.inl rfl))) (blkOk_by (N := ["_law_told", "_law_due", "_law_one", "_law_other"]) (sc := defScope t__law_same) (by decide +kernel)) (fun _ _ _ _ _ => (dg_tup rfl (dgs_cons (dg_name (i := 2) nd rfl (Or.inl rfl) (Or.inr rfl)) (dgs_cons (dg_name (i := 3) nd rfl (Or.inl rfl) (Or.inr rfl)) dgs_nil)))) (fun _ _ _ _ _ => dts_nil) (fun _ _ _ _ _ => (de_def C_self hr (da_cons (de_var 2 rfl (Or.inl rfl)) (da_cons (de_var 3 rfl (Or.inl rfl)) da_nil)) (xs_len (xs_len xs_len0))))) da_nil)))))))))
set_option maxHeartbeats 4000000 in
abbrev t_all_sides : Stmt := topS 13
theorem c_all_sides : FnScope ["groups", "found", "group"] ["groups"] (defScope t_all_sides) := ⟨rfl, rfl, rfl, by decide +kernel, rfl, by decide +kernel, by decide +kernel⟩
theorem ok_all_sides (D : DefF K mg "all_sides" t_all_sides ["groups"]) (B : Blt mg)  : Ok P w K mg base 1 "all_sides" ["groups"] f_all_sides := by
  refine ok_mk (k := 0) (N := ["groups", "found", "group"]) D c_all_sides fun f cdv A outer s H E hr => ?_
  have nd := c_all_sides.nd
  exact (dss_cons (ds_set (i := 1) nd (de_lst da_nil) rfl (Or.inl rfl))
  (dss_cons (ds_for PassesOwn.never rfl (di_seq (de_var 0 rfl (Or.inl rfl))) (dg_name (i := 2) nd rfl (Or.inl rfl) (Or.inl rfl)) (dss_one (ds_ext 1 (de_var 2 rfl (Or.inl rfl)) rfl (Or.inl rfl))))
  (dss_one (ds_retV 1 rfl (Or.inl rfl)))))
set_option maxHeartbeats 4000000 in
abbrev t_measure : Stmt := topS 1
theorem c_measure : FnScope ["one", "other"] ["one", "other"] (defScope t_measure) := ⟨rfl, rfl, rfl, by decide +kernel, rfl, by decide +kernel, by decide +kernel⟩
theorem ok_measure (D : DefF K mg "measure" t_measure ["one", "other"]) (B : Blt mg)  : Ok P w K mg base 1 "measure" ["one", "other"] f_measure := by
  refine ok_mk (k := 0) (N := ["one", "other"]) D c_measure fun f cdv A outer s H E hr => ?_
  have nd := c_measure.nd
  exact (dss_cons (ds_set (i := 0) nd (de_callB call_abs o_abs B.abs (by decide +kernel) (da_cons (de_var 0 rfl (Or.inl rfl)) da_nil)) rfl (Or.inl rfl))
  (dss_cons (ds_set (i := 1) nd (de_callB call_abs o_abs B.abs (by decide +kernel) (da_cons (de_var 1 rfl (Or.inl rfl)) da_nil)) rfl (Or.inl rfl))
  (dss_cons (ds_while PassesOwn.never (dt_cmp op_gt o_cmpI (de_var 1 rfl (Or.inl rfl)) de_int (nomark _)) (dss_one (ds_par (i := 0) (j := 1) rfl nd (da_cons (de_var 1 rfl (Or.inl rfl)) (da_cons (de_2 op_mod o_mod (de_var 0 rfl (Or.inl rfl)) (de_var 1 rfl (Or.inl rfl))) da_nil)))))
  (dss_one (ds_retV 0 rfl (Or.inl rfl))))))
set_option maxHeartbeats 4000000 in
abbrev t_spot : Stmt := topS 2
theorem c_spot : FnScope ["x", "y", "w", "by"] ["x", "y", "w"] (defScope t_spot) := ⟨rfl, rfl, rfl, by decide +kernel, rfl, by decide +kernel, by decide +kernel⟩
theorem ok_spot (D : DefF K mg "spot" t_spot ["x", "y", "w"]) (B : Blt mg) (C_measure : Ok P w K mg base 1 "measure" ["one", "other"] f_measure) : Ok P w K mg base 2 "spot" ["x", "y", "w"] f_spot := by
  refine ok_mk (k := 1) (N := ["x", "y", "w", "by"]) D c_spot fun f cdv A outer s H E hr => ?_
  have nd := c_spot.nd
  exact (dss_cons (ds_if (dt_cmp op_lt o_cmpI (de_var 2 rfl (Or.inl rfl)) de_int (nomark _)) (dss_one (ds_par3 (i := 0) (j := 1) (l := 2) rfl nd (da_cons (de_neg (de_var 0 rfl (Or.inl rfl))) (da_cons (de_neg (de_var 1 rfl (Or.inl rfl))) (da_cons (de_neg (de_var 2 rfl (Or.inl rfl))) da_nil))))) dss_nil)
  (dss_cons (ds_set (i := 3) nd (de_def (C_measure.up (by decide)) hr (da_cons (de_def (C_measure.up (by decide)) hr (da_cons (de_var 0 rfl (Or.inl rfl)) (da_cons (de_var 1 rfl (Or.inl rfl)) da_nil)) (xs_len (xs_len xs_len0))) (da_cons (de_var 2 rfl (Or.inl rfl)) da_nil)) (xs_len (xs_len xs_len0))) rfl (Or.inl rfl))
  (dss_one (ds_ret (de_tup (da_cons (de_2 op_fdivW o_fdiv (de_var 0 rfl (Or.inl rfl)) (de_var 3 rfl (Or.inl rfl))) (da_cons (de_2 op_fdivW o_fdiv (de_var 1 rfl (Or.inl rfl)) (de_var 3 rfl (Or.inl rfl))) (da_cons (de_2 op_fdivW o_fdiv (de_var 2 rfl (Or.inl rfl)) (de_var 3 rfl (Or.inl rfl))) da_nil))))))))
set_option maxHeartbeats 4000000 in
abbrev t_turn : Stmt := topS 4
theorem c_turn : FnScope ["one", "other"] ["one", "other"] (defScope t_turn) := ⟨rfl, rfl, rfl, by decide +kernel, rfl, by decide +kernel, by decide +kernel⟩
theorem ok_turn (D : DefF K mg "turn" t_turn ["one", "other"]) (B : Blt mg)  : Ok P w K mg base 1 "turn" ["one", "other"] f_turn := by
  refine ok_mk (k := 0) (N := ["one", "other"]) D c_turn fun f cdv A outer s H E hr => ?_
  have nd := c_turn.nd
  exact (dss_one (ds_ret (de_2 op_sub o_sub (de_2 op_mulW o_mul (de_ix (de_var 0 rfl (Or.inl rfl)) de_int (fun _ _ => rfl)) (de_ix (de_var 1 rfl (Or.inl rfl)) de_int (fun _ _ => rfl))) (de_2 op_mulW o_mul (de_ix (de_var 0 rfl (Or.inl rfl)) de_int (fun _ _ => rfl)) (de_ix (de_var 1 rfl (Or.inl rfl)) de_int (fun _ _ => rfl))))))
set_option maxHeartbeats 4000000 in
abbrev t_crossing : Stmt := topS 7
theorem c_crossing : FnScope ["one", "other", "by", "x", "y"] ["one", "other"] (defScope t_crossing) := ⟨rfl, rfl, rfl, by decide +kernel, rfl, by decide +kernel, by decide +kernel⟩
theorem ok_crossing (D : DefF K mg "crossing" t_crossing ["one", "other"]) (B : Blt mg) (C_spot : Ok P w K mg base 2 "spot" ["x", "y", "w"] f_spot) (C_turn : Ok P w K mg base 1 "turn" ["one", "other"] f_turn) : Ok P w K mg base 3 "crossing" ["one", "other"] f_crossing := by
  refine ok_mk (k := 2) (N := ["one", "other", "by", "x", "y"]) D c_crossing fun f cdv A outer s H E hr => ?_
  have nd := c_crossing.nd
  exact (dss_cons (ds_set (i := 2) nd (de_def (C_turn.up (by decide)) hr (da_cons (de_var 0 rfl (Or.inl rfl)) (da_cons (de_var 1 rfl (Or.inl rfl)) da_nil)) (xs_len (xs_len xs_len0))) rfl (Or.inl rfl))
  (dss_cons (ds_if (dt_cmp (op_eqD hr.units) o_eq (de_var 2 rfl (Or.inl rfl)) de_int (nomark _)) (dss_one (ds_ret de_non)) dss_nil)
  (dss_cons (ds_set (i := 3) nd (de_2 op_sub o_sub (de_2 op_mulW o_mul (de_ix (de_var 0 rfl (Or.inl rfl)) de_int (fun _ _ => rfl)) (de_ix (de_var 1 rfl (Or.inl rfl)) de_int (fun _ _ => rfl))) (de_2 op_mulW o_mul (de_ix (de_var 1 rfl (Or.inl rfl)) de_int (fun _ _ => rfl)) (de_ix (de_var 0 rfl (Or.inl rfl)) de_int (fun _ _ => rfl)))) rfl (Or.inl rfl))
  (dss_cons (ds_set (i := 4) nd (de_2 op_sub o_sub (de_2 op_mulW o_mul (de_ix (de_var 0 rfl (Or.inl rfl)) de_int (fun _ _ => rfl)) (de_ix (de_var 1 rfl (Or.inl rfl)) de_int (fun _ _ => rfl))) (de_2 op_mulW o_mul (de_ix (de_var 1 rfl (Or.inl rfl)) de_int (fun _ _ => rfl)) (de_ix (de_var 0 rfl (Or.inl rfl)) de_int (fun _ _ => rfl)))) rfl (Or.inl rfl))
  (dss_one (ds_ret (de_def (C_spot.up (by decide)) hr (da_cons (de_var 3 rfl (Or.inl rfl)) (da_cons (de_var 4 rfl (Or.inl rfl)) (da_cons (de_var 2 rfl (Or.inl rfl)) da_nil))) (xs_len (xs_len (xs_len xs_len0))))))))))
set_option maxHeartbeats 4000000 in
abbrev t_crossings : Stmt := topS 11
theorem c_crossings : FnScope ["sides", "found", "at", "one", "other", "place"] ["sides"] (defScope t_crossings) := ⟨rfl, rfl, rfl, by decide +kernel, rfl, by decide +kernel, by decide +kernel⟩
theorem ok_crossings (D : DefF K mg "crossings" t_crossings ["sides"]) (B : Blt mg) (C_crossing : Ok P w K mg base 3 "crossing" ["one", "other"] f_crossing) : Ok P w K mg base 4 "crossings" ["sides"] f_crossings := by
  refine ok_mk (k := 3) (N := ["sides", "found", "at", "one", "other", "place"]) D c_crossings fun f cdv A outer s H E hr => ?_
  have nd := c_crossings.nd
  exact (dss_cons (ds_set (i := 1) nd de_dnew rfl (Or.inl rfl))
  (dss_cons (ds_for PassesOwn.never rfl (di_enum B.enumerate (de_var 0 rfl (Or.inl rfl))) (dg_tup rfl (dgs_cons (dg_name (i := 2) nd rfl (Or.inl rfl) (Or.inl rfl)) (dgs_cons (dg_name (i := 3) nd rfl (Or.inl rfl) (Or.inl rfl)) dgs_nil))) (dss_one (ds_for PassesOwn.never rfl (di_seq (de_sl (de_var 0 rfl (Or.inl rfl)) (dp_some (de_2 r_add o_add (de_var 2 rfl (Or.inl rfl)) de_int)) dp_none)) (dg_name (i := 4) nd rfl (Or.inl rfl) (Or.inl rfl)) (dss_cons (ds_set (i := 5) nd (de_def (C_crossing.up (by decide)) hr (da_cons (de_var 3 rfl (Or.inl rfl)) (da_cons (de_var 4 rfl (Or.inl rfl)) da_nil)) (xs_len (xs_len xs_len0))) rfl (Or.inl rfl))
  (dss_one (ds_if (dt_cmp op_notN o_notN (de_var 5 rfl (Or.inl rfl)) de_non (nomark _)) (dss_one (ds_dput 1 (u1 hr.units) de_bl (de_var 5 rfl (Or.inl rfl)) rfl (Or.inl rfl))) dss_nil))))))
  (dss_one (ds_ret (de_callTy (c_listE rfl) o_listE B.list (by decide +kernel) (da_cons (de_var 1 rfl (Or.inl rfl)) da_nil))))))
set_option maxHeartbeats 4000000 in
abbrev t_foot : Stmt := topS 10
theorem c_foot : FnScope ["side"] ["side"] (defScope t_foot) := ⟨rfl, rfl, rfl, by decide +kernel, rfl, by decide +kernel, by decide +kernel⟩
theorem ok_foot (D : DefF K mg "foot" t_foot ["side"]) (B : Blt mg) (C_spot : Ok P w K mg base 2 "spot" ["x", "y", "w"] f_spot) : Ok P w K mg base 3 "foot" ["side"] f_foot := by
  refine ok_mk (k := 2) (N := ["side"]) D c_foot fun f cdv A outer s H E hr => ?_
  have nd := c_foot.nd
  exact (dss_one (ds_ret (de_def (C_spot.up (by decide)) hr (da_cons (de_2 op_mulW o_mul (de_ix (de_var 0 rfl (Or.inl rfl)) de_int (fun _ _ => rfl)) (de_ix (de_var 0 rfl (Or.inl rfl)) de_int (fun _ _ => rfl))) (da_cons (de_2 op_mulW o_mul (de_ix (de_var 0 rfl (Or.inl rfl)) de_int (fun _ _ => rfl)) (de_ix (de_var 0 rfl (Or.inl rfl)) de_int (fun _ _ => rfl))) (da_cons (de_2 r_add o_add (de_2 op_mulW o_mul (de_ix (de_var 0 rfl (Or.inl rfl)) de_int (fun _ _ => rfl)) (de_ix (de_var 0 rfl (Or.inl rfl)) de_int (fun _ _ => rfl))) (de_2 op_mulW o_mul (de_ix (de_var 0 rfl (Or.inl rfl)) de_int (fun _ _ => rfl)) (de_ix (de_var 0 rfl (Or.inl rfl)) de_int (fun _ _ => rfl)))) da_nil))) (xs_len (xs_len (xs_len xs_len0))))))
set_option maxHeartbeats 4000000 in
abbrev t_candidates : Stmt := topS 15
theorem c_candidates : FnScope ["groups", "sides", "side"] ["groups"] (defScope t_candidates) := ⟨rfl, rfl, rfl, by decide +kernel, rfl, by decide +kernel, by decide +kernel⟩
theorem ok_candidates (D : DefF K mg "candidates" t_candidates ["groups"]) (B : Blt mg) (C_all_sides : Ok P w K mg base 1 "all_sides" ["groups"] f_all_sides) (C_crossings : Ok P w K mg base 4 "crossings" ["sides"] f_crossings) (C_foot : Ok P w K mg base 3 "foot" ["side"] f_foot) : Ok P w K mg base 5 "candidates" ["groups"] f_candidates := by
  refine ok_mk (k := 4) (N := ["groups", "sides", "side"]) D c_candidates fun f cdv A outer s H E hr => ?_
  have nd := c_candidates.nd
  exact (dss_cons (ds_set (i := 1) nd (de_def (C_all_sides.up (by decide)) hr (da_cons (de_var 0 rfl (Or.inl rfl)) da_nil) (xs_len xs_len0)) rfl (Or.inl rfl))
  (dss_one (ds_ret (de_2 r_add o_add (de_2 r_add o_add (de_lst (da_cons (de_tup (da_cons de_int (da_cons de_int (da_cons de_int da_nil)))) da_nil)) (de_def (C_crossings.up (by decide)) hr (da_cons (de_var 1 rfl (Or.inl rfl)) da_nil) (xs_len xs_len0))) (de_lc (own := [("side", 2)]) (ns := [1]) rfl nd (di_seq (de_var 1 rfl (Or.inl rfl))) (blkOk_by (N := ["groups", "sides", "side"]) (sc := defScope t_candidates) (by decide +kernel)) (fun _ _ _ _ _ => (dg_name (i := 2) nd rfl (Or.inl rfl) (Or.inr rfl))) (fun _ _ _ _ _ => dts_nil) (fun _ _ _ _ _ => (de_def (C_foot.up (by decide)) hr (da_cons (de_var 2 rfl (Or.inl rfl)) da_nil) (xs_len xs_len0))))))))
set_option maxHeartbeats 4000000 in
abbrev t_along : Stmt := topS 5
theorem c_along : FnScope ["side", "place"] ["side", "place"] (defScope t_along) := ⟨rfl, rfl, rfl, by decide +kernel, rfl, by decide +kernel, by decide +kernel⟩
theorem ok_along (D : DefF K mg "along" t_along ["side", "place"]) (B : Blt mg)  : Ok P w K mg base 1 "along" ["side", "place"] f_along := by
  refine ok_mk (k := 0) (N := ["side", "place"]) D c_along fun f cdv A outer s H E hr => ?_
  have nd := c_along.nd
  exact (dss_one (ds_ret (de_2 r_add o_add (de_2 op_mulW o_mul (de_ix (de_var 0 rfl (Or.inl rfl)) de_int (fun _ _ => rfl)) (de_ix (de_var 1 rfl (Or.inl rfl)) de_int (fun _ _ => rfl))) (de_2 op_mulW o_mul (de_ix (de_var 0 rfl (Or.inl rfl)) de_int (fun _ _ => rfl)) (de_ix (de_var 1 rfl (Or.inl rfl)) de_int (fun _ _ => rfl))))))
set_option maxHeartbeats 4000000 in
abbrev t_holds : Stmt := topS 6
theorem c_holds : FnScope ["side", "place"] ["side", "place"] (defScope t_holds) := ⟨rfl, rfl, rfl, by decide +kernel, rfl, by decide +kernel, by decide +kernel⟩
theorem ok_holds (D : DefF K mg "holds" t_holds ["side", "place"]) (B : Blt mg) (C_along : Ok P w K mg base 1 "along" ["side", "place"] f_along) : Ok P w K mg base 2 "holds" ["side", "place"] f_holds := by
  refine ok_mk (k := 1) (N := ["side", "place"]) D c_holds fun f cdv A outer s H E hr => ?_
  have nd := c_holds.nd
  exact (dss_one (ds_ret (de_cmp op_le o_cmpI (de_def (C_along.up (by decide)) hr (da_cons (de_var 0 rfl (Or.inl rfl)) (da_cons (de_var 1 rfl (Or.inl rfl)) da_nil)) (xs_len (xs_len xs_len0))) (de_2 op_mulW o_mul (de_ix (de_var 0 rfl (Or.inl rfl)) de_int (fun _ _ => rfl)) (de_ix (de_var 1 rfl (Or.inl rfl)) de_int (fun _ _ => rfl))) (nomark _))))
set_option maxHeartbeats 4000000 in
abbrev t_in_all : Stmt := topS 9
theorem c_in_all : FnScope ["sides", "place", "side"] ["sides", "place"] (defScope t_in_all) := ⟨rfl, rfl, rfl, by decide +kernel, rfl, by decide +kernel, by decide +kernel⟩
theorem ok_in_all (D : DefF K mg "in_all" t_in_all ["sides", "place"]) (B : Blt mg) (C_holds : Ok P w K mg base 2 "holds" ["side", "place"] f_holds) : Ok P w K mg base 3 "in_all" ["sides", "place"] f_in_all := by
  refine ok_mk (k := 2) (N := ["sides", "place", "side"]) D c_in_all fun f cdv A outer s H E hr => ?_
  have nd := c_in_all.nd
  exact (dss_cons (ds_for PassesOwn.never rfl (di_seq (de_var 0 rfl (Or.inl rfl))) (dg_name (i := 2) nd rfl (Or.inl rfl) (Or.inl rfl)) (dss_one (ds_if (dt_not (dt_val (de_def (C_holds.up (by decide)) hr (da_cons (de_var 2 rfl (Or.inl rfl)) (da_cons (de_var 1 rfl (Or.inl rfl)) da_nil)) (xs_len (xs_len xs_len0))))) (dss_one (ds_ret de_bl)) dss_nil)))
  (dss_one (ds_ret de_bl)))
set_option maxHeartbeats 4000000 in
abbrev t_doubted : Stmt := topS 14
theorem c_doubted : FnScope ["groups", "place", "at", "group"] ["groups", "place"] (defScope t_doubted) := ⟨rfl, rfl, rfl, by decide +kernel, rfl, by decide +kernel, by decide +kernel⟩
theorem ok_doubted (D : DefF K mg "doubted" t_doubted ["groups", "place"]) (B : Blt mg) (C_in_all : Ok P w K mg base 3 "in_all" ["sides", "place"] f_in_all) : Ok P w K mg base 4 "doubted" ["groups", "place"] f_doubted := by
  refine ok_mk (k := 3) (N := ["groups", "place", "at", "group"]) D c_doubted fun f cdv A outer s H E hr => ?_
  have nd := c_doubted.nd
  exact (dss_one (ds_ret (de_lc (own := [("at", 2), ("group", 3)]) (ns := [0, 1]) rfl nd (di_enum B.enumerate (de_var 0 rfl (Or.inl rfl))) (blkOk_by (N := ["groups", "place", "at", "group"]) (sc := defScope t_doubted) (by decide +kernel)) (fun _ _ _ _ _ => (dg_tup rfl (dgs_cons (dg_name (i := 2) nd rfl (Or.inl rfl) (Or.inr rfl)) (dgs_cons (dg_name (i := 3) nd rfl (Or.inl rfl) (Or.inr rfl)) dgs_nil)))) (fun _ _ _ _ _ => (dts_one (dt_not (dt_val (de_def (C_in_all.up (by decide)) hr (da_cons (de_var 3 rfl (Or.inl rfl)) (da_cons (de_var 1 rfl (Or.inr (Or.inl rfl))) da_nil)) (xs_len (xs_len xs_len0))))))) (fun _ _ _ _ _ => (de_var 2 rfl (Or.inl rfl))))))
set_option maxHeartbeats 4000000 in
abbrev t_tried : Stmt := topS 16
theorem c_tried : FnScope ["groups", "rows", "least", "place", "row"] ["groups"] (defScope t_tried) := ⟨rfl, rfl, rfl, by decide +kernel, rfl, by decide +kernel, by decide +kernel⟩
theorem ok_tried (D : DefF K mg "tried" t_tried ["groups"]) (B : Blt mg) (C_candidates : Ok P w K mg base 5 "candidates" ["groups"] f_candidates) (C_doubted : Ok P w K mg base 4 "doubted" ["groups", "place"] f_doubted) : Ok P w K mg base 6 "tried" ["groups"] f_tried := by
  refine ok_mk (k := 5) (N := ["groups", "rows", "least", "place", "row"]) D c_tried fun f cdv A outer s H E hr => ?_
  have nd := c_tried.nd
  exact (dss_cons (ds_setLc (own := [("place", 3)]) (i := 1) (ns := [0]) rfl nd (di_seq (de_def (C_candidates.up (by decide)) hr (da_cons (de_var 0 rfl (Or.inr (Or.inl rfl))) da_nil) (xs_len xs_len0))) (blkOk_by (N := ["groups", "rows", "least", "place", "row"]) (sc := defScope t_tried) (by decide +kernel)) (fun _ _ _ _ _ => (dg_name (i := 3) nd rfl (Or.inl rfl) (Or.inr rfl))) (fun _ _ _ _ _ => dts_nil) (fun _ _ _ _ _ => (de_tup (da_cons (de_var 3 rfl (Or.inl rfl)) (da_cons (de_def (C_doubted.up (by decide)) hr (da_cons (de_var 0 rfl (Or.inr (Or.inl rfl))) (da_cons (de_var 3 rfl (Or.inl rfl)) da_nil)) (xs_len (xs_len xs_len0))) da_nil)))) rfl rfl (sw_true rfl rfl rfl (by decide +kernel)))
  (dss_cons (ds_set (i := 2) nd (de_callB (c_minS rfl (u64 hr.units)) o_minS B.min (by decide +kernel) (da_cons (de_lc (own := [("place", 3), ("row", 4)]) (ns := [1]) rfl nd (di_seq (de_var 1 rfl (Or.inl rfl))) (blkOk_by (N := ["groups", "rows", "least", "place", "row"]) (sc := defScope t_tried) (by decide +kernel)) (fun _ _ _ _ _ => (dg_tup rfl (dgs_cons (dg_name (i := 3) nd rfl (Or.inl rfl) (Or.inr rfl)) (dgs_cons (dg_name (i := 4) nd rfl (Or.inl rfl) (Or.inr rfl)) dgs_nil)))) (fun _ _ _ _ _ => dts_nil) (fun _ _ _ _ _ => (de_callB c_len o_len B.len (by decide +kernel) (da_cons (de_var 4 rfl (Or.inl rfl)) da_nil)))) da_nil)) rfl (Or.inr rfl))
  (dss_one (ds_retPick (ns := [1, 2]) (own := [("place", 3), ("row", 4)]) (i := 1) (j1 := 3) (j2 := 4) rfl nd (pe_var rfl (Or.inl rfl)) (blkOk_by (N := ["groups", "rows", "least", "place", "row"]) (sc := defScope t_tried) (by decide +kernel)) (fun _ _ _ _ _ => (pg_tup rfl (pgs_cons (pg_name (i := 3) nd rfl (Or.inl rfl) (Or.inr rfl)) (pgs_cons (pg_name (i := 4) nd rfl (Or.inl rfl) (Or.inr rfl)) pgs_nil)))) (fun _ _ _ _ _ => (dts_one (dt_cmp (op_eqD hr.units) o_eq (de_callB c_len o_len B.len (by decide +kernel) (da_cons (de_var 4 rfl (Or.inl rfl)) da_nil)) (de_var 2 rfl (Or.inr (Or.inl rfl))) (nomark _)))) (fun _ _ _ _ _ => (pe_tup (pa_cons (pe_var (i := 3) rfl (Or.inl rfl)) (pa_cons (pe_var (i := 4) rfl (Or.inl rfl)) pa_nil))))))))
set_option maxHeartbeats 4000000 in
abbrev t_choices : Stmt := topS 17
theorem c_choices : FnScope ["groups", "found", "place", "row"] ["groups"] (defScope t_choices) := ⟨rfl, rfl, rfl, by decide +kernel, rfl, by decide +kernel, by decide +kernel⟩
theorem ok_choices (D : DefF K mg "choices" t_choices ["groups"]) (B : Blt mg) (C_tried : Ok P w K mg base 6 "tried" ["groups"] f_tried) : Ok P w K mg base 7 "choices" ["groups"] f_choices := by
  refine ok_mk (k := 6) (N := ["groups", "found", "place", "row"]) D c_choices fun f cdv A outer s H E hr => ?_
  have nd := c_choices.nd
  exact (dss_cons (ds_set (i := 1) nd (de_lst da_nil) rfl (Or.inl rfl))
  (dss_cons (ds_forM (j1 := 2) (j2 := 3) PassesOwn.never rfl (de_def (C_tried.up (by decide)) hr (da_cons (de_var 0 rfl (Or.inl rfl)) da_nil) (xs_len xs_len0)) (pg_tup rfl (pgs_cons (pg_name (i := 2) nd rfl (Or.inl rfl) (Or.inl rfl)) (pgs_cons (pg_name (i := 3) nd rfl (Or.inl rfl) (Or.inl rfl)) pgs_nil))) (dss_one (ds_if (dt_cmp (r_notIn (u65 hr)) o_notIn (de_var 3 rfl (Or.inl rfl)) (de_var 1 rfl (Or.inl rfl)) rfl) (dss_one (ds_appMv 1 3 rfl (Or.inl rfl) rfl (Or.inl rfl))) dss_nil)))
  (dss_one (ds_retSortM 1 (u64 hr.units) B.sorted rfl (Or.inl rfl)))))
set_option maxHeartbeats 4000000 in
abbrev t_law : Stmt := topS 35
theorem c_law : FnScope ["_law_script", "_law_some", "_law_many_here", "_law_groups_here", "_law_due", "_law_handed", "_law_again", "_law_found", "_law_row", "_law_group"] ["_law_script"] (defScope t_law) := ⟨rfl, rfl, rfl, by decide +kernel, rfl, by decide +kernel, by decide +kernel⟩
theorem ok_law (D : DefF K mg "law" t_law ["_law_script"]) (B : Blt mg) (C__law_draws : Ok P w K mg base 2 "_law_draws" ["_law_script", "_law_many_here"] f__law_draws) (C__law_groups : Ok P w K mg base 3 "_law_groups" ["_law_some", "_law_many_here"] f__law_groups) (C__law_least_doubts : Ok P w K mg base 4 "_law_least_doubts" ["_law_groups_here"] f__law_least_doubts) (C__law_many : Ok P w K mg base 1 "_law_many" ["_law_one", "_law_two", "_law_few", "_law_most"] f__law_many) (C__law_same : Ok P w K mg base 12 "_law_same" ["_law_told", "_law_due"] (f__law_same 12)) (C_choices : Ok P w K mg base 7 "choices" ["groups"] f_choices) : Ok P w K mg base 13 "law" ["_law_script"] f_law := by
  refine ok_mk (k := 12) (N := ["_law_script", "_law_some", "_law_many_here", "_law_groups_here", "_law_due", "_law_handed", "_law_again", "_law_found", "_law_row", "_law_group"]) D c_law fun f cdv A outer s H E hr => ?_
  have nd := c_law.nd
  exact (dss_cons (ds_set (i := 1) nd (de_def (C__law_draws.up (by decide)) hr (da_cons (de_var 0 rfl (Or.inl rfl)) (da_cons de_int da_nil)) (xs_len (xs_len xs_len0))) rfl (Or.inl rfl))
  (dss_cons (ds_set (i := 2) nd (de_def (C__law_many.up (by decide)) hr (da_cons (de_ix (de_var 1 rfl (Or.inl rfl)) de_int (fun _ _ => rfl)) (da_cons (de_ix (de_var 1 rfl (Or.inl rfl)) de_int (fun _ _ => rfl)) (da_cons de_int (da_cons de_int da_nil)))) (xs_len (xs_len (xs_len (xs_len xs_len0))))) rfl (Or.inl rfl))
  (dss_cons (ds_if (dt_cmp (op_eqD hr.units) o_eq (de_2 op_mod o_mod (de_2 op_fdivW o_fdiv (de_ix (de_var 1 rfl (Or.inl rfl)) de_int (fun _ _ => rfl)) de_int) de_int) de_int (nomark _)) (dss_one (ds_set (i := 2) nd (de_2 r_add o_add de_int (de_2 op_mod o_mod (de_ix (de_var 1 rfl (Or.inl rfl)) de_int (fun _ _ => rfl)) de_int)) rfl (Or.inl rfl))) dss_nil)
  (dss_cons (ds_set (i := 3) nd (de_def (C__law_groups.up (by decide)) hr (da_cons (de_sl (de_var 1 rfl (Or.inl rfl)) (dp_some de_int) dp_none) (da_cons (de_var 2 rfl (Or.inl rfl)) da_nil)) (xs_len (xs_len xs_len0))) rfl (Or.inl rfl))
  (dss_cons (ds_set (i := 4) nd (de_def (C__law_least_doubts.up (by decide)) hr (da_cons (de_var 3 rfl (Or.inl rfl)) da_nil) (xs_len xs_len0)) rfl (Or.inl rfl))
  (dss_cons (ds_setLc (own := [("_law_group", 9)]) (i := 5) (ns := [3]) rfl nd (di_seq (de_var 3 rfl (Or.inl rfl))) (blkOk_by (N := ["_law_script", "_law_some", "_law_many_here", "_law_groups_here", "_law_due", "_law_handed", "_law_again", "_law_found", "_law_row", "_law_group"]) (sc := defScope t_law) (by decide +kernel)) (fun _ _ _ _ _ => (dg_name (i := 9) nd rfl (Or.inl rfl) (Or.inr rfl))) (fun _ _ _ _ _ => dts_nil) (fun _ _ _ _ _ => (de_callTy (c_listE rfl) o_listE B.list (by decide +kernel) (da_cons (de_var 9 rfl (Or.inl rfl)) da_nil))) rfl rfl (sw_true rfl rfl rfl (by decide +kernel)))
  (dss_cons (ds_for PassesOwn.never rfl (di_rng1 (ms := []) B.range de_int) (dg_name (i := 6) nd rfl (Or.inl rfl) (Or.inl rfl)) (dss_cons (ds_set (i := 7) nd (de_def (C_choices.up (by decide)) hr (da_cons (de_var 5 rfl (Or.inl rfl)) da_nil) (xs_len xs_len0)) rfl (Or.inl rfl))
  (dss_cons (ds_if (dw_pt (dw_or (dt_not (dt_val (de_def (C__law_same.up (by decide)) hr (da_cons (de_var 7 rfl (Or.inl rfl)) (da_cons (de_var 4 rfl (Or.inl rfl)) da_nil)) (xs_len (xs_len xs_len0))))) (dw_or1 (dt_cmp (op_neD hr.units) o_ne (de_var 5 rfl (Or.inl rfl)) (de_var 3 rfl (Or.inl rfl)) (nomark _))))) (dss_one (ds_ret de_bl)) dss_nil)
  (dss_cons (ds_forApp 7 8 (c := 0) PassesOwn.never rfl nd rfl (Or.inl rfl) rfl (Or.inl rfl) (Or.inl rfl) (Or.inl rfl))
  (dss_one (ds_revM 7 rfl (Or.inl rfl)))))))
  (dss_one (ds_ret de_bl)))))))))
set_option maxHeartbeats 4000000 in
theorem all_ok {P : Program} {w : World} {K : PySem.W.Frag} {mg : Str → Option Value} {h : Heap} (X : K.In h) (G : h.Ns mainGlobals mg)
   (z0 : PySem.W.nsIn K mainGlobals "abs" = some none) (z1 : PySem.W.nsIn K mainGlobals "all" = some none) (z2 : PySem.W.nsIn K mainGlobals "any" = some none) (z3 : PySem.W.nsIn K mainGlobals "enumerate" = some none) (z4 : PySem.W.nsIn K mainGlobals "int" = some none) (z5 : PySem.W.nsIn K mainGlobals "isinstance" = some none) (z6 : PySem.W.nsIn K mainGlobals "len" = some none) (z7 : PySem.W.nsIn K mainGlobals "list" = some none) (z8 : PySem.W.nsIn K mainGlobals "max" = some none) (z9 : PySem.W.nsIn K mainGlobals "min" = some none) (z10 : PySem.W.nsIn K mainGlobals "range" = some none) (z11 : PySem.W.nsIn K mainGlobals "zip" = some none) (z12 : PySem.W.nsIn K mainGlobals "bool" = some none) (z13 : PySem.W.nsIn K mainGlobals "tuple" = some none) (z14 : PySem.W.nsIn K mainGlobals "str" = some none) (z15 : PySem.W.nsIn K mainGlobals "sorted" = some none) (z16 : PySem.W.nsIn K mainGlobals "sum" = some none) (z17 : PySem.W.nsIn K mainGlobals "dict" = some none)
   {f0 : Addr} {oc0 : Value} {od0 an0 : Option Addr} {sl0 : Array (Option Value)} {kV0 dc0 pm0 cd0 ct0 : Value}
   (a0 : PySem.W.nsIn K mainGlobals "_law_power" = some (some (.ref f0))) (l0 : K.lookup f0 = some ⟨oc0, od0, .func (PySem.W.fnOf "_law_power" "_law_power" (defArgs t__law_power) (defBody t__law_power) (defScope t__law_power) .none kV0 dc0 pm0 an0 cd0 ct0), sl0⟩) (c0 : PySem.W.codeIn K cd0 "_law_power" = true) (k0 : PySem.W.keepIn K (.ref f0) = true)
   {f1 : Addr} {oc1 : Value} {od1 an1 : Option Addr} {sl1 : Array (Option Value)} {kV1 dc1 pm1 cd1 ct1 : Value}
   (a1 : PySem.W.nsIn K mainGlobals "_law_draws" = some (some (.ref f1))) (l1 : K.lookup f1 = some ⟨oc1, od1, .func (PySem.W.fnOf "_law_draws" "_law_draws" (defArgs t__law_draws) (defBody t__law_draws) (defScope t__law_draws) .none kV1 dc1 pm1 an1 cd1 ct1), sl1⟩) (c1 : PySem.W.codeIn K cd1 "_law_draws" = true) (k1 : PySem.W.keepIn K (.ref f1) = true)
   {f2 : Addr} {oc2 : Value} {od2 an2 : Option Addr} {sl2 : Array (Option Value)} {kV2 dc2 pm2 cd2 ct2 : Value}
   (a2 : PySem.W.nsIn K mainGlobals "_law_turned" = some (some (.ref f2))) (l2 : K.lookup f2 = some ⟨oc2, od2, .func (PySem.W.fnOf "_law_turned" "_law_turned" (defArgs t__law_turned) (defBody t__law_turned) (defScope t__law_turned) .none kV2 dc2 pm2 an2 cd2 ct2), sl2⟩) (c2 : PySem.W.codeIn K cd2 "_law_turned" = true) (k2 : PySem.W.keepIn K (.ref f2) = true)
   {f3 : Addr} {oc3 : Value} {od3 an3 : Option Addr} {sl3 : Array (Option Value)} {kV3 dc3 pm3 cd3 ct3 : Value}
   (a3 : PySem.W.nsIn K mainGlobals "_law_way" = some (some (.ref f3))) (l3 : K.lookup f3 = some ⟨oc3, od3, .func (PySem.W.fnOf "_law_way" "_law_way" (defArgs t__law_way) (defBody t__law_way) (defScope t__law_way) .none kV3 dc3 pm3 an3 cd3 ct3), sl3⟩) (c3 : PySem.W.codeIn K cd3 "_law_way" = true) (k3 : PySem.W.keepIn K (.ref f3) = true)
   {f4 : Addr} {oc4 : Value} {od4 an4 : Option Addr} {sl4 : Array (Option Value)} {kV4 dc4 pm4 cd4 ct4 : Value}
   (a4 : PySem.W.nsIn K mainGlobals "_law_left_pair" = some (some (.ref f4))) (l4 : K.lookup f4 = some ⟨oc4, od4, .func (PySem.W.fnOf "_law_left_pair" "_law_left_pair" (defArgs t__law_left_pair) (defBody t__law_left_pair) (defScope t__law_left_pair) .none kV4 dc4 pm4 an4 cd4 ct4), sl4⟩) (c4 : PySem.W.codeIn K cd4 "_law_left_pair" = true) (k4 : PySem.W.keepIn K (.ref f4) = true)
   {f5 : Addr} {oc5 : Value} {od5 an5 : Option Addr} {sl5 : Array (Option Value)} {kV5 dc5 pm5 cd5 ct5 : Value}
   (a5 : PySem.W.nsIn K mainGlobals "_law_side" = some (some (.ref f5))) (l5 : K.lookup f5 = some ⟨oc5, od5, .func (PySem.W.fnOf "_law_side" "_law_side" (defArgs t__law_side) (defBody t__law_side) (defScope t__law_side) .none kV5 dc5 pm5 an5 cd5 ct5), sl5⟩) (c5 : PySem.W.codeIn K cd5 "_law_side" = true) (k5 : PySem.W.keepIn K (.ref f5) = true)
   {f6 : Addr} {oc6 : Value} {od6 an6 : Option Addr} {sl6 : Array (Option Value)} {kV6 dc6 pm6 cd6 ct6 : Value}
   (a6 : PySem.W.nsIn K mainGlobals "_law_groups" = some (some (.ref f6))) (l6 : K.lookup f6 = some ⟨oc6, od6, .func (PySem.W.fnOf "_law_groups" "_law_groups" (defArgs t__law_groups) (defBody t__law_groups) (defScope t__law_groups) .none kV6 dc6 pm6 an6 cd6 ct6), sl6⟩) (c6 : PySem.W.codeIn K cd6 "_law_groups" = true) (k6 : PySem.W.keepIn K (.ref f6) = true)
   {f7 : Addr} {oc7 : Value} {od7 an7 : Option Addr} {sl7 : Array (Option Value)} {kV7 dc7 pm7 cd7 ct7 : Value}
   (a7 : PySem.W.nsIn K mainGlobals "_law_has" = some (some (.ref f7))) (l7 : K.lookup f7 = some ⟨oc7, od7, .func (PySem.W.fnOf "_law_has" "_law_has" (defArgs t__law_has) (defBody t__law_has) (defScope t__law_has) .none kV7 dc7 pm7 an7 cd7 ct7), sl7⟩) (c7 : PySem.W.codeIn K cd7 "_law_has" = true) (k7 : PySem.W.keepIn K (.ref f7) = true)
   {f8 : Addr} {oc8 : Value} {od8 an8 : Option Addr} {sl8 : Array (Option Value)} {kV8 dc8 pm8 cd8 ct8 : Value}
   (a8 : PySem.W.nsIn K mainGlobals "_law_doubts" = some (some (.ref f8))) (l8 : K.lookup f8 = some ⟨oc8, od8, .func (PySem.W.fnOf "_law_doubts" "_law_doubts" (defArgs t__law_doubts) (defBody t__law_doubts) (defScope t__law_doubts) .none kV8 dc8 pm8 an8 cd8 ct8), sl8⟩) (c8 : PySem.W.codeIn K cd8 "_law_doubts" = true) (k8 : PySem.W.keepIn K (.ref f8) = true)
   {f9 : Addr} {oc9 : Value} {od9 an9 : Option Addr} {sl9 : Array (Option Value)} {kV9 dc9 pm9 cd9 ct9 : Value}
   (a9 : PySem.W.nsIn K mainGlobals "_law_low" = some (some (.ref f9))) (l9 : K.lookup f9 = some ⟨oc9, od9, .func (PySem.W.fnOf "_law_low" "_law_low" (defArgs t__law_low) (defBody t__law_low) (defScope t__law_low) .none kV9 dc9 pm9 an9 cd9 ct9), sl9⟩) (c9 : PySem.W.codeIn K cd9 "_law_low" = true) (k9 : PySem.W.keepIn K (.ref f9) = true)
   {f10 : Addr} {oc10 : Value} {od10 an10 : Option Addr} {sl10 : Array (Option Value)} {kV10 dc10 pm10 cd10 ct10 : Value}
   (a10 : PySem.W.nsIn K mainGlobals "_law_spot_of" = some (some (.ref f10))) (l10 : K.lookup f10 = some ⟨oc10, od10, .func (PySem.W.fnOf "_law_spot_of" "_law_spot_of" (defArgs t__law_spot_of) (defBody t__law_spot_of) (defScope t__law_spot_of) .none kV10 dc10 pm10 an10 cd10 ct10), sl10⟩) (c10 : PySem.W.codeIn K cd10 "_law_spot_of" = true) (k10 : PySem.W.keepIn K (.ref f10) = true)
   {f11 : Addr} {oc11 : Value} {od11 an11 : Option Addr} {sl11 : Array (Option Value)} {kV11 dc11 pm11 cd11 ct11 : Value}
   (a11 : PySem.W.nsIn K mainGlobals "_law_feet" = some (some (.ref f11))) (l11 : K.lookup f11 = some ⟨oc11, od11, .func (PySem.W.fnOf "_law_feet" "_law_feet" (defArgs t__law_feet) (defBody t__law_feet) (defScope t__law_feet) .none kV11 dc11 pm11 an11 cd11 ct11), sl11⟩) (c11 : PySem.W.codeIn K cd11 "_law_feet" = true) (k11 : PySem.W.keepIn K (.ref f11) = true)
   {f12 : Addr} {oc12 : Value} {od12 an12 : Option Addr} {sl12 : Array (Option Value)} {kV12 dc12 pm12 cd12 ct12 : Value}
   (a12 : PySem.W.nsIn K mainGlobals "_law_meet" = some (some (.ref f12))) (l12 : K.lookup f12 = some ⟨oc12, od12, .func (PySem.W.fnOf "_law_meet" "_law_meet" (defArgs t__law_meet) (defBody t__law_meet) (defScope t__law_meet) .none kV12 dc12 pm12 an12 cd12 ct12), sl12⟩) (c12 : PySem.W.codeIn K cd12 "_law_meet" = true) (k12 : PySem.W.keepIn K (.ref f12) = true)
   {f13 : Addr} {oc13 : Value} {od13 an13 : Option Addr} {sl13 : Array (Option Value)} {kV13 dc13 pm13 cd13 ct13 : Value}
   (a13 : PySem.W.nsIn K mainGlobals "_law_least_doubts" = some (some (.ref f13))) (l13 : K.lookup f13 = some ⟨oc13, od13, .func (PySem.W.fnOf "_law_least_doubts" "_law_least_doubts" (defArgs t__law_least_doubts) (defBody t__law_least_doubts) (defScope t__law_least_doubts) .none kV13 dc13 pm13 an13 cd13 ct13), sl13⟩) (c13 : PySem.W.codeIn K cd13 "_law_least_doubts" = true) (k13 : PySem.W.keepIn K (.ref f13) = true)
   {f14 : Addr} {oc14 : Value} {od14 an14 : Option Addr} {sl14 : Array (Option Value)} {kV14 dc14 pm14 cd14 ct14 : Value}
   (a14 : PySem.W.nsIn K mainGlobals "_law_many" = some (some (.ref f14))) (l14 : K.lookup f14 = some ⟨oc14, od14, .func (PySem.W.fnOf "_law_many" "_law_many" (defArgs t__law_many) (defBody t__law_many) (defScope t__law_many) .none kV14 dc14 pm14 an14 cd14 ct14), sl14⟩) (c14 : PySem.W.codeIn K cd14 "_law_many" = true) (k14 : PySem.W.keepIn K (.ref f14) = true)
   {f15 : Addr} {oc15 : Value} {od15 an15 : Option Addr} {sl15 : Array (Option Value)} {kV15 dc15 pm15 cd15 ct15 : Value}
   (a15 : PySem.W.nsIn K mainGlobals "_law_same" = some (some (.ref f15))) (l15 : K.lookup f15 = some ⟨oc15, od15, .func (PySem.W.fnOf "_law_same" "_law_same" (defArgs t__law_same) (defBody t__law_same) (defScope t__law_same) .none kV15 dc15 pm15 an15 cd15 ct15), sl15⟩) (c15 : PySem.W.codeIn K cd15 "_law_same" = true) (k15 : PySem.W.keepIn K (.ref f15) = true)
   {f16 : Addr} {oc16 : Value} {od16 an16 : Option Addr} {sl16 : Array (Option Value)} {kV16 dc16 pm16 cd16 ct16 : Value}
   (a16 : PySem.W.nsIn K mainGlobals "all_sides" = some (some (.ref f16))) (l16 : K.lookup f16 = some ⟨oc16, od16, .func (PySem.W.fnOf "all_sides" "all_sides" (defArgs t_all_sides) (defBody t_all_sides) (defScope t_all_sides) .none kV16 dc16 pm16 an16 cd16 ct16), sl16⟩) (c16 : PySem.W.codeIn K cd16 "all_sides" = true) (k16 : PySem.W.keepIn K (.ref f16) = true)
   {f17 : Addr} {oc17 : Value} {od17 an17 : Option Addr} {sl17 : Array (Option Value)} {kV17 dc17 pm17 cd17 ct17 : Value}
   (a17 : PySem.W.nsIn K mainGlobals "measure" = some (some (.ref f17))) (l17 : K.lookup f17 = some ⟨oc17, od17, .func (PySem.W.fnOf "measure" "measure" (defArgs t_measure) (defBody t_measure) (defScope t_measure) .none kV17 dc17 pm17 an17 cd17 ct17), sl17⟩) (c17 : PySem.W.codeIn K cd17 "measure" = true) (k17 : PySem.W.keepIn K (.ref f17) = true)
   {f18 : Addr} {oc18 : Value} {od18 an18 : Option Addr} {sl18 : Array (Option Value)} {kV18 dc18 pm18 cd18 ct18 : Value}
   (a18 : PySem.W.nsIn K mainGlobals "spot" = some (some (.ref f18))) (l18 : K.lookup f18 = some ⟨oc18, od18, .func (PySem.W.fnOf "spot" "spot" (defArgs t_spot) (defBody t_spot) (defScope t_spot) .none kV18 dc18 pm18 an18 cd18 ct18), sl18⟩) (c18 : PySem.W.codeIn K cd18 "spot" = true) (k18 : PySem.W.keepIn K (.ref f18) = true)
   {f19 : Addr} {oc19 : Value} {od19 an19 : Option Addr} {sl19 : Array (Option Value)} {kV19 dc19 pm19 cd19 ct19 : Value}
   (a19 : PySem.W.nsIn K mainGlobals "turn" = some (some (.ref f19))) (l19 : K.lookup f19 = some ⟨oc19, od19, .func (PySem.W.fnOf "turn" "turn" (defArgs t_turn) (defBody t_turn) (defScope t_turn) .none kV19 dc19 pm19 an19 cd19 ct19), sl19⟩) (c19 : PySem.W.codeIn K cd19 "turn" = true) (k19 : PySem.W.keepIn K (.ref f19) = true)
   {f20 : Addr} {oc20 : Value} {od20 an20 : Option Addr} {sl20 : Array (Option Value)} {kV20 dc20 pm20 cd20 ct20 : Value}
   (a20 : PySem.W.nsIn K mainGlobals "crossing" = some (some (.ref f20))) (l20 : K.lookup f20 = some ⟨oc20, od20, .func (PySem.W.fnOf "crossing" "crossing" (defArgs t_crossing) (defBody t_crossing) (defScope t_crossing) .none kV20 dc20 pm20 an20 cd20 ct20), sl20⟩) (c20 : PySem.W.codeIn K cd20 "crossing" = true) (k20 : PySem.W.keepIn K (.ref f20) = true)
   {f21 : Addr} {oc21 : Value} {od21 an21 : Option Addr} {sl21 : Array (Option Value)} {kV21 dc21 pm21 cd21 ct21 : Value}
   (a21 : PySem.W.nsIn K mainGlobals "crossings" = some (some (.ref f21))) (l21 : K.lookup f21 = some ⟨oc21, od21, .func (PySem.W.fnOf "crossings" "crossings" (defArgs t_crossings) (defBody t_crossings) (defScope t_crossings) .none kV21 dc21 pm21 an21 cd21 ct21), sl21⟩) (c21 : PySem.W.codeIn K cd21 "crossings" = true) (k21 : PySem.W.keepIn K (.ref f21) = true)
   {f22 : Addr} {oc22 : Value} {od22 an22 : Option Addr} {sl22 : Array (Option Value)} {kV22 dc22 pm22 cd22 ct22 : Value}
   (a22 : PySem.W.nsIn K mainGlobals "foot" = some (some (.ref f22))) (l22 : K.lookup f22 = some ⟨oc22, od22, .func (PySem.W.fnOf "foot" "foot" (defArgs t_foot) (defBody t_foot) (defScope t_foot) .none kV22 dc22 pm22 an22 cd22 ct22), sl22⟩) (c22 : PySem.W.codeIn K cd22 "foot" = true) (k22 : PySem.W.keepIn K (.ref f22) = true)
   {f23 : Addr} {oc23 : Value} {od23 an23 : Option Addr} {sl23 : Array (Option Value)} {kV23 dc23 pm23 cd23 ct23 : Value}
   (a23 : PySem.W.nsIn K mainGlobals "candidates" = some (some (.ref f23))) (l23 : K.lookup f23 = some ⟨oc23, od23, .func (PySem.W.fnOf "candidates" "candidates" (defArgs t_candidates) (defBody t_candidates) (defScope t_candidates) .none kV23 dc23 pm23 an23 cd23 ct23), sl23⟩) (c23 : PySem.W.codeIn K cd23 "candidates" = true) (k23 : PySem.W.keepIn K (.ref f23) = true)
   {f24 : Addr} {oc24 : Value} {od24 an24 : Option Addr} {sl24 : Array (Option Value)} {kV24 dc24 pm24 cd24 ct24 : Value}
   (a24 : PySem.W.nsIn K mainGlobals "along" = some (some (.ref f24))) (l24 : K.lookup f24 = some ⟨oc24, od24, .func (PySem.W.fnOf "along" "along" (defArgs t_along) (defBody t_along) (defScope t_along) .none kV24 dc24 pm24 an24 cd24 ct24), sl24⟩) (c24 : PySem.W.codeIn K cd24 "along" = true) (k24 : PySem.W.keepIn K (.ref f24) = true)
   {f25 : Addr} {oc25 : Value} {od25 an25 : Option Addr} {sl25 : Array (Option Value)} {kV25 dc25 pm25 cd25 ct25 : Value}
   (a25 : PySem.W.nsIn K mainGlobals "holds" = some (some (.ref f25))) (l25 : K.lookup f25 = some ⟨oc25, od25, .func (PySem.W.fnOf "holds" "holds" (defArgs t_holds) (defBody t_holds) (defScope t_holds) .none kV25 dc25 pm25 an25 cd25 ct25), sl25⟩) (c25 : PySem.W.codeIn K cd25 "holds" = true) (k25 : PySem.W.keepIn K (.ref f25) = true)
   {f26 : Addr} {oc26 : Value} {od26 an26 : Option Addr} {sl26 : Array (Option Value)} {kV26 dc26 pm26 cd26 ct26 : Value}
   (a26 : PySem.W.nsIn K mainGlobals "in_all" = some (some (.ref f26))) (l26 : K.lookup f26 = some ⟨oc26, od26, .func (PySem.W.fnOf "in_all" "in_all" (defArgs t_in_all) (defBody t_in_all) (defScope t_in_all) .none kV26 dc26 pm26 an26 cd26 ct26), sl26⟩) (c26 : PySem.W.codeIn K cd26 "in_all" = true) (k26 : PySem.W.keepIn K (.ref f26) = true)
   {f27 : Addr} {oc27 : Value} {od27 an27 : Option Addr} {sl27 : Array (Option Value)} {kV27 dc27 pm27 cd27 ct27 : Value}
   (a27 : PySem.W.nsIn K mainGlobals "doubted" = some (some (.ref f27))) (l27 : K.lookup f27 = some ⟨oc27, od27, .func (PySem.W.fnOf "doubted" "doubted" (defArgs t_doubted) (defBody t_doubted) (defScope t_doubted) .none kV27 dc27 pm27 an27 cd27 ct27), sl27⟩) (c27 : PySem.W.codeIn K cd27 "doubted" = true) (k27 : PySem.W.keepIn K (.ref f27) = true)
   {f28 : Addr} {oc28 : Value} {od28 an28 : Option Addr} {sl28 : Array (Option Value)} {kV28 dc28 pm28 cd28 ct28 : Value}
   (a28 : PySem.W.nsIn K mainGlobals "tried" = some (some (.ref f28))) (l28 : K.lookup f28 = some ⟨oc28, od28, .func (PySem.W.fnOf "tried" "tried" (defArgs t_tried) (defBody t_tried) (defScope t_tried) .none kV28 dc28 pm28 an28 cd28 ct28), sl28⟩) (c28 : PySem.W.codeIn K cd28 "tried" = true) (k28 : PySem.W.keepIn K (.ref f28) = true)
   {f29 : Addr} {oc29 : Value} {od29 an29 : Option Addr} {sl29 : Array (Option Value)} {kV29 dc29 pm29 cd29 ct29 : Value}
   (a29 : PySem.W.nsIn K mainGlobals "choices" = some (some (.ref f29))) (l29 : K.lookup f29 = some ⟨oc29, od29, .func (PySem.W.fnOf "choices" "choices" (defArgs t_choices) (defBody t_choices) (defScope t_choices) .none kV29 dc29 pm29 an29 cd29 ct29), sl29⟩) (c29 : PySem.W.codeIn K cd29 "choices" = true) (k29 : PySem.W.keepIn K (.ref f29) = true)
   {f30 : Addr} {oc30 : Value} {od30 an30 : Option Addr} {sl30 : Array (Option Value)} {kV30 dc30 pm30 cd30 ct30 : Value}
   (a30 : PySem.W.nsIn K mainGlobals "law" = some (some (.ref f30))) (l30 : K.lookup f30 = some ⟨oc30, od30, .func (PySem.W.fnOf "law" "law" (defArgs t_law) (defBody t_law) (defScope t_law) .none kV30 dc30 pm30 an30 cd30 ct30), sl30⟩) (c30 : PySem.W.codeIn K cd30 "law" = true) (k30 : PySem.W.keepIn K (.ref f30) = true)
   (base : Heap) : Ok P w K mg base 13 "law" ["_law_script"] f_law := by
  have B : Blt mg := ⟨PySem.W.mg_none_of X G z0, PySem.W.mg_none_of X G z1, PySem.W.mg_none_of X G z2, PySem.W.mg_none_of X G z3, PySem.W.mg_none_of X G z4, PySem.W.mg_none_of X G z5, PySem.W.mg_none_of X G z6, PySem.W.mg_none_of X G z7, PySem.W.mg_none_of X G z8, PySem.W.mg_none_of X G z9, PySem.W.mg_none_of X G z10, PySem.W.mg_none_of X G z11, PySem.W.mg_none_of X G z12, PySem.W.mg_none_of X G z13, PySem.W.mg_none_of X G z14, PySem.W.mg_none_of X G z15, PySem.W.mg_none_of X G z16, PySem.W.mg_none_of X G z17⟩
  have d__law_power : DefF K mg "_law_power" t__law_power ["_law_number"] := def_mk X G a0 l0 c0 k0 fun us hl => match us, hl with | [_], _ => rfl
  have d__law_draws : DefF K mg "_law_draws" t__law_draws ["_law_script", "_law_many_here"] := def_mk X G a1 l1 c1 k1 fun us hl => match us, hl with | [_, _], _ => rfl
  have d__law_turned : DefF K mg "_law_turned" t__law_turned ["_law_one", "_law_other"] := def_mk X G a2 l2 c2 k2 fun us hl => match us, hl with | [_, _], _ => rfl
  have d__law_way : DefF K mg "_law_way" t__law_way ["_law_one", "_law_two", "_law_wide"] := def_mk X G a3 l3 c3 k3 fun us hl => match us, hl with | [_, _, _], _ => rfl
  have d__law_left_pair : DefF K mg "_law_left_pair" t__law_left_pair ["_law_d", "_law_wide"] := def_mk X G a4 l4 c4 k4 fun us hl => match us, hl with | [_, _], _ => rfl
  have d__law_side : DefF K mg "_law_side" t__law_side ["_law_d"] := def_mk X G a5 l5 c5 k5 fun us hl => match us, hl with | [_], _ => rfl
  have d__law_groups : DefF K mg "_law_groups" t__law_groups ["_law_some", "_law_many_here"] := def_mk X G a6 l6 c6 k6 fun us hl => match us, hl with | [_, _], _ => rfl
  have d__law_has : DefF K mg "_law_has" t__law_has ["_law_sides", "_law_place"] := def_mk X G a7 l7 c7 k7 fun us hl => match us, hl with | [_, _], _ => rfl
  have d__law_doubts : DefF K mg "_law_doubts" t__law_doubts ["_law_groups_here", "_law_place"] := def_mk X G a8 l8 c8 k8 fun us hl => match us, hl with | [_, _], _ => rfl
  have d__law_low : DefF K mg "_law_low" t__law_low ["_law_one", "_law_other"] := def_mk X G a9 l9 c9 k9 fun us hl => match us, hl with | [_, _], _ => rfl
  have d__law_spot_of : DefF K mg "_law_spot_of" t__law_spot_of ["_law_x", "_law_y", "_law_w"] := def_mk X G a10 l10 c10 k10 fun us hl => match us, hl with | [_, _, _], _ => rfl
  have d__law_feet : DefF K mg "_law_feet" t__law_feet ["_law_sides"] := def_mk X G a11 l11 c11 k11 fun us hl => match us, hl with | [_], _ => rfl
  have d__law_meet : DefF K mg "_law_meet" t__law_meet ["_law_one", "_law_other"] := def_mk X G a12 l12 c12 k12 fun us hl => match us, hl with | [_, _], _ => rfl
  have d__law_least_doubts : DefF K mg "_law_least_doubts" t__law_least_doubts ["_law_groups_here"] := def_mk X G a13 l13 c13 k13 fun us hl => match us, hl with | [_], _ => rfl
  have d__law_many : DefF K mg "_law_many" t__law_many ["_law_one", "_law_two", "_law_few", "_law_most"] := def_mk X G a14 l14 c14 k14 fun us hl => match us, hl with | [_, _, _, _], _ => rfl
  have d__law_same : DefF K mg "_law_same" t__law_same ["_law_told", "_law_due"] := def_mk X G a15 l15 c15 k15 fun us hl => match us, hl with | [_, _], _ => rfl
  have d_all_sides : DefF K mg "all_sides" t_all_sides ["groups"] := def_mk X G a16 l16 c16 k16 fun us hl => match us, hl with | [_], _ => rfl
  have d_measure : DefF K mg "measure" t_measure ["one", "other"] := def_mk X G a17 l17 c17 k17 fun us hl => match us, hl with | [_, _], _ => rfl
  have d_spot : DefF K mg "spot" t_spot ["x", "y", "w"] := def_mk X G a18 l18 c18 k18 fun us hl => match us, hl with | [_, _, _], _ => rfl
  have d_turn : DefF K mg "turn" t_turn ["one", "other"] := def_mk X G a19 l19 c19 k19 fun us hl => match us, hl with | [_, _], _ => rfl
  have d_crossing : DefF K mg "crossing" t_crossing ["one", "other"] := def_mk X G a20 l20 c20 k20 fun us hl => match us, hl with | [_, _], _ => rfl
  have d_crossings : DefF K mg "crossings" t_crossings ["sides"] := def_mk X G a21 l21 c21 k21 fun us hl => match us, hl with | [_], _ => rfl
  have d_foot : DefF K mg "foot" t_foot ["side"] := def_mk X G a22 l22 c22 k22 fun us hl => match us, hl with | [_], _ => rfl
  have d_candidates : DefF K mg "candidates" t_candidates ["groups"] := def_mk X G a23 l23 c23 k23 fun us hl => match us, hl with | [_], _ => rfl
  have d_along : DefF K mg "along" t_along ["side", "place"] := def_mk X G a24 l24 c24 k24 fun us hl => match us, hl with | [_, _], _ => rfl
  have d_holds : DefF K mg "holds" t_holds ["side", "place"] := def_mk X G a25 l25 c25 k25 fun us hl => match us, hl with | [_, _], _ => rfl
  have d_in_all : DefF K mg "in_all" t_in_all ["sides", "place"] := def_mk X G a26 l26 c26 k26 fun us hl => match us, hl with | [_, _], _ => rfl
  have d_doubted : DefF K mg "doubted" t_doubted ["groups", "place"] := def_mk X G a27 l27 c27 k27 fun us hl => match us, hl with | [_, _], _ => rfl
  have d_tried : DefF K mg "tried" t_tried ["groups"] := def_mk X G a28 l28 c28 k28 fun us hl => match us, hl with | [_], _ => rfl
  have d_choices : DefF K mg "choices" t_choices ["groups"] := def_mk X G a29 l29 c29 k29 fun us hl => match us, hl with | [_], _ => rfl
  have d_law : DefF K mg "law" t_law ["_law_script"] := def_mk X G a30 l30 c30 k30 fun us hl => match us, hl with | [_], _ => rfl
  have C__law_power := ok__law_power (P := P) (w := w) (base := base) d__law_power B 
  have C__law_draws := ok__law_draws (P := P) (w := w) (base := base) d__law_draws B C__law_power
  have C__law_turned := ok__law_turned (P := P) (w := w) (base := base) d__law_turned B 
  have C__law_way := ok__law_way (P := P) (w := w) (base := base) d__law_way B 
  have C__law_left_pair := ok__law_left_pair (P := P) (w := w) (base := base) d__law_left_pair B C__law_turned C__law_way
  have C__law_side := ok__law_side (P := P) (w := w) (base := base) d__law_side B C__law_way
  have C__law_groups := ok__law_groups (P := P) (w := w) (base := base) d__law_groups B C__law_left_pair C__law_side
  have C__law_has := ok__law_has (P := P) (w := w) (base := base) d__law_has B 
  have C__law_doubts := ok__law_doubts (P := P) (w := w) (base := base) d__law_doubts B C__law_has
  have C__law_low := ok__law_low (P := P) (w := w) (base := base) d__law_low B 
  have C__law_spot_of := ok__law_spot_of (P := P) (w := w) (base := base) d__law_spot_of B C__law_low
  have C__law_feet := ok__law_feet (P := P) (w := w) (base := base) d__law_feet B C__law_spot_of
  have C__law_meet := ok__law_meet (P := P) (w := w) (base := base) d__law_meet B C__law_spot_of
  have C__law_least_doubts := ok__law_least_doubts (P := P) (w := w) (base := base) d__law_least_doubts B C__law_doubts C__law_feet C__law_meet C__law_turned
  have C__law_many := ok__law_many (P := P) (w := w) (base := base) d__law_many B 
  have C__law_same := ok__law_same (P := P) (w := w) (base := base) d__law_same B  12
  have C_all_sides := ok_all_sides (P := P) (w := w) (base := base) d_all_sides B 
  have C_measure := ok_measure (P := P) (w := w) (base := base) d_measure B 
  have C_spot := ok_spot (P := P) (w := w) (base := base) d_spot B C_measure
  have C_turn := ok_turn (P := P) (w := w) (base := base) d_turn B 
  have C_crossing := ok_crossing (P := P) (w := w) (base := base) d_crossing B C_spot C_turn
  have C_crossings := ok_crossings (P := P) (w := w) (base := base) d_crossings B C_crossing
  have C_foot := ok_foot (P := P) (w := w) (base := base) d_foot B C_spot
  have C_candidates := ok_candidates (P := P) (w := w) (base := base) d_candidates B C_all_sides C_crossings C_foot
  have C_along := ok_along (P := P) (w := w) (base := base) d_along B 
  have C_holds := ok_holds (P := P) (w := w) (base := base) d_holds B C_along
  have C_in_all := ok_in_all (P := P) (w := w) (base := base) d_in_all B C_holds
  have C_doubted := ok_doubted (P := P) (w := w) (base := base) d_doubted B C_in_all
  have C_tried := ok_tried (P := P) (w := w) (base := base) d_tried B C_candidates C_doubted
  have C_choices := ok_choices (P := P) (w := w) (base := base) d_choices B C_tried
  have C_law := ok_law (P := P) (w := w) (base := base) d_law B C__law_draws C__law_groups C__law_least_doubts C__law_many C__law_same C_choices
  exact C_law
end
end Wk
end
open PySem PySem.W PyProof.Rows
set_option maxRecDepth 100000 in
set_option maxHeartbeats 0 in
theorem PySem.Challenge.cw_seamarks_k20_choices_told_holds : PySem.Challenge.rw_seamarks_k20_choices_told.Holds := by
  w_on; o_law; k_head; (case hw => w_witness2)
  k_fill
  refine Dv.end_law (l := PySem.Challenge.rw_seamarks_k20_choices_told) (k := 13) (x := "_law_script") (fn := Sm.f_law) rfl rfl ⟨rfl, by decide, by decide⟩ (fun w h Y => PySem.W.kIn_of Y) ?F Sm.law_true
  case F =>
    intro w mg h KX G base
    refine' Wk.all_ok KX G ?z0 ?z1 ?z2 ?z3 ?z4 ?z5 ?z6 ?z7 ?z8 ?z9 ?z10 ?z11 ?z12 ?z13 ?z14 ?z15 ?z16 ?z17 ?a0 ?l0 ?c0 ?k0 ?a1 ?l1 ?c1 ?k1 ?a2 ?l2 ?c2 ?k2 ?a3 ?l3 ?c3 ?k3 ?a4 ?l4 ?c4 ?k4 ?a5 ?l5 ?c5 ?k5 ?a6 ?l6 ?c6 ?k6 ?a7 ?l7 ?c7 ?k7 ?a8 ?l8 ?c8 ?k8 ?a9 ?l9 ?c9 ?k9 ?a10 ?l10 ?c10 ?k10 ?a11 ?l11 ?c11 ?k11 ?a12 ?l12 ?c12 ?k12 ?a13 ?l13 ?c13 ?k13 ?a14 ?l14 ?c14 ?k14 ?a15 ?l15 ?c15 ?k15 ?a16 ?l16 ?c16 ?k16 ?a17 ?l17 ?c17 ?k17 ?a18 ?l18 ?c18 ?k18 ?a19 ?l19 ?c19 ?k19 ?a20 ?l20 ?c20 ?k20 ?a21 ?l21 ?c21 ?k21 ?a22 ?l22 ?c22 ?k22 ?a23 ?l23 ?c23 ?k23 ?a24 ?l24 ?c24 ?k24 ?a25 ?l25 ?c25 ?k25 ?a26 ?l26 ?c26 ?k26 ?a27 ?l27 ?c27 ?k27 ?a28 ?l28 ?c28 ?k28 ?a29 ?l29 ?c29 ?k29 ?a30 ?l30 ?c30 ?k30 base
    (case z0 => k_is); (case z1 => k_is); (case z2 => k_is); (case z3 => k_is); (case z4 => k_is); (case z5 => k_is)
    (case z6 => k_is); (case z7 => k_is); (case z8 => k_is); (case z9 => k_is); (case z10 => k_is); (case z11 => k_is)
    (case z12 => k_is); (case z13 => k_is); (case z14 => k_is); (case z15 => k_is); (case z16 => k_is); (case z17 => k_is)
    (case a0 => k_is); (case l0 => k_is); (case c0 => k_is); (case k0 => k_is); (case a1 => k_is); (case l1 => k_is)
    (case c1 => k_is); (case k1 => k_is); (case a2 => k_is); (case l2 => k_is); (case c2 => k_is); (case k2 => k_is)
    (case a3 => k_is); (case l3 => k_is); (case c3 => k_is); (case k3 => k_is); (case a4 => k_is); (case l4 => k_is)
    (case c4 => k_is); (case k4 => k_is); (case a5 => k_is); (case l5 => k_is); (case c5 => k_is); (case k5 => k_is)
    (case a6 => k_is); (case l6 => k_is); (case c6 => k_is); (case k6 => k_is); (case a7 => k_is); (case l7 => k_is)
    (case c7 => k_is); (case k7 => k_is); (case a8 => k_is); (case l8 => k_is); (case c8 => k_is); (case k8 => k_is)
    (case a9 => k_is); (case l9 => k_is); (case c9 => k_is); (case k9 => k_is); (case a10 => k_is); (case l10 => k_is)
    (case c10 => k_is); (case k10 => k_is); (case a11 => k_is); (case l11 => k_is); (case c11 => k_is); (case k11 => k_is)
    (case a12 => k_is); (case l12 => k_is); (case c12 => k_is); (case k12 => k_is); (case a13 => k_is); (case l13 => k_is)
    (case c13 => k_is); (case k13 => k_is); (case a14 => k_is); (case l14 => k_is); (case c14 => k_is); (case k14 => k_is)
    (case a15 => k_is); (case l15 => k_is); (case c15 => k_is); (case k15 => k_is); (case a16 => k_is); (case l16 => k_is)
    (case c16 => k_is); (case k16 => k_is); (case a17 => k_is); (case l17 => k_is); (case c17 => k_is); (case k17 => k_is)
    (case a18 => k_is); (case l18 => k_is); (case c18 => k_is); (case k18 => k_is); (case a19 => k_is); (case l19 => k_is)
    (case c19 => k_is); (case k19 => k_is); (case a20 => k_is); (case l20 => k_is); (case c20 => k_is); (case k20 => k_is)
    (case a21 => k_is); (case l21 => k_is); (case c21 => k_is); (case k21 => k_is); (case a22 => k_is); (case l22 => k_is)
    (case c22 => k_is); (case k22 => k_is); (case a23 => k_is); (case l23 => k_is); (case c23 => k_is); (case k23 => k_is)
    (case a24 => k_is); (case l24 => k_is); (case c24 => k_is); (case k24 => k_is); (case a25 => k_is); (case l25 => k_is)
    (case c25 => k_is); (case k25 => k_is); (case a26 => k_is); (case l26 => k_is); (case c26 => k_is); (case k26 => k_is)
    (case a27 => k_is); (case l27 => k_is); (case c27 => k_is); (case k27 => k_is); (case a28 => k_is); (case l28 => k_is)
    (case c28 => k_is); (case k28 => k_is); (case a29 => k_is); (case l29 => k_is); (case c29 => k_is); (case k29 => k_is)
    (case a30 => k_is); (case l30 => k_is); (case c30 => k_is); (case k30 => k_is)
