import PyProof.Rows.All
import Wide.All
import OpenK.AllK
import Wide.FinOn
import HandS.ForMost
import HandS.ExcInit
import HandS.IsInst
import HandS.Deep
import HandS.Codes
import HandS.Style
import HandS.Defaults
import HandS.Comp
import HandS.WideBits
import HandS.WordsDict
import HandS.Text
import PyProof.ReprReads
import HandS.Ends
import HandS.HeadEnd
import KE.KExcSuper
import HandS.ExcIs
import HandS.ExcField
import HandS.ExcValue
import KE.KExcIs
import HandS.EndBits
import HandS.Head2
import HandS.HeadHook2
import HandS.Head0
import HandS.Head1
import PySem.Challenge.RW_carryruns_k01_errors_each_of_its_own
set_option Elab.async false
set_option linter.all false
set_option autoImplicit false
/-! The data layer, its plain half: values as nested data, tracked objects by number, what each construct means. -/
namespace Cz
open PySem
abbrev Key := L2.Key
inductive D where
  | non | bl (b : Bool) | int (i : Int) | str (x : Str)
  | tup (xs : List D) | lst (xs : List D) | dct (ks : List Key) (xs : List D)
  | scr (xs : List Int)
  | ref (i : Nat) | ty (n : String) | fn (f : Str)
  | exn (c f : Str) (x : D) | exn0 (c : Str)
  deriving Inhabited
inductive O where
  | lst (xs : List D) | dct (ks : List Key) (xs : List D) | ins (c : Str) (fs : List (Str × D))
abbrev LH := List (Option O)
abbrev Rho := List (Option D)
inductive Res (α : Type) where
  | ok (a : α) (L : LH) | exc (c : Str) (vs : List D) (L : LH) | bad
def Res.bind {α β : Type} (r : Res α) (f : α → LH → Res β) : Res β := match r with
  | .ok a L => f a L
  | .exc c vs L => .exc c vs L
  | .bad => .bad
@[simp] theorem bind_ok {α β : Type} (a : α) (L : LH) (f : α → LH → Res β) : (Res.ok a L).bind f = f a L := rfl
@[simp] theorem bind_bad {α β : Type} (f : α → LH → Res β) : (Res.bad : Res α).bind f = .bad := rfl
@[simp] theorem bind_exc {α β : Type} (c vs L) (f : α → LH → Res β) : (Res.exc c vs L : Res α).bind f = .exc c vs L := rfl
theorem bind_inv {α β : Type} {r : Res α} {f : α → LH → Res β} {b : β} {L : LH} (h : r.bind f = .ok b L) : ∃ a L1, r = .ok a L1 ∧ f a L1 = .ok b L := by
  cases r with
  | ok a L1 => exact ⟨a, L1, rfl, h⟩
  | exc c vs L1 => exact nomatch h
  | bad => exact nomatch h
abbrev Ex := Rho → LH → Res D
abbrev Te := Rho → LH → Res Bool
abbrev Fu := List D → LH → Res D
/-! ### data of the library -/
mutual
def toP : D → Option PyData
  | .non => some .none
  | .bl b => some (.bool b)
  | .int i => some (.int i)
  | .str x => some (.str x)
  | .tup xs => (toPA xs).map .tuple
  | .lst xs => (toPA xs).map .list
  | _ => none
def toPA : List D → Option (List PyData)
  | [] => some []
  | x :: xs => (toP x).bind fun p => (toPA xs).map (p :: ·)
end
/-! ### values -/
def eVar (i : Nat) : Ex := fun ρ L => match ρ[i]? with
  | some (some d) => .ok d L
  | _ => .bad
def eC (d : D) : Ex := fun _ L => .ok d L
def e1 (g : D → LH → Res D) (a : Ex) : Ex := fun ρ L => (a ρ L).bind g
def e2 (g : D → D → LH → Res D) (a b : Ex) : Ex := fun ρ L => (a ρ L).bind fun x L => (b ρ L).bind fun y L => g x y L
def eIf (t : Te) (a b : Ex) : Ex := fun ρ L => (t ρ L).bind fun c L => if c = true then a ρ L else b ρ L
/-- a value that is True or False -/
def bOf : D → LH → Res Bool
  | .bl b, L => .ok b L
  | _, _ => .bad
def tE (a : Ex) : Te := fun ρ L => (a ρ L).bind bOf
def tAnd (a b : Te) : Te := fun ρ L => (a ρ L).bind fun c L => if c = true then b ρ L else .ok false L
def tOr (a b : Te) : Te := fun ρ L => (a ρ L).bind fun c L => if c = true then .ok true L else b ρ L
def tNot (a : Te) : Te := fun ρ L => (a ρ L).bind fun c L => .ok (!c) L
def eAnd (a b : Ex) : Ex := fun ρ L => (tE a ρ L).bind fun c L => if c = true then b ρ L else .ok (.bl false) L
def eOr (a b : Ex) : Ex := fun ρ L => (tE a ρ L).bind fun c L => if c = true then .ok (.bl true) L else b ρ L
def eNot (a : Ex) : Ex := fun ρ L => (tE a ρ L).bind fun c L => .ok (.bl (!c)) L
def eArgs : List Ex → Rho → LH → Res (List D)
  | [], _, L => .ok [] L
  | a :: r, ρ, L => (a ρ L).bind fun x L => (eArgs r ρ L).bind fun xs L => .ok (x :: xs) L
/-- what stands behind a reference, one step -/
def deref (L : LH) : D → D
  | .ref i => match L[i]? with
    | some (some (.lst xs)) => .lst xs
    | some (some (.dct ks xs)) => .dct ks xs
    | _ => .ref i
  | d => d
def eqD (x y : D) (L : LH) : Res D := match toP (deref L x), toP (deref L y) with
  | some p, some q => if SeqAt.shaped p = true ∧ SeqAt.shaped q = true then .ok (.bl (PyData.eqv p q)) L else .bad
  | _, _ => .bad
def neD (x y : D) (L : LH) : Res D := match toP (deref L x), toP (deref L y) with
  | some p, some q => if SeqAt.shaped p = true ∧ SeqAt.shaped q = true then .ok (.bl (!PyData.eqv p q)) L else .bad
  | _, _ => .bad
def intOp (g : Int → Int → D) (x y : D) (L : LH) : Res D := match x, y with
  | .int i, .int j => .ok (g i j) L
  | _, _ => .bad
def strLt (x y : Str) : Bool := decide (x.cps.toList < y.cps.toList)
def ltD (x y : D) (L : LH) : Res D := match x, y with
  | .int i, .int j => .ok (.bl (decide (i < j))) L
  | .str i, .str j => .ok (.bl (strLt i j)) L
  | _, _ => .bad
def sz : Nat := sizeLine
def addD (x y : D) (L : LH) : Res D := match deref L x, deref L y with
  | .int i, .int j => .ok (.int (i + j)) L
  | .str i, .str j => if i.length + j.length ≤ sz then .ok (.str (i ++ j)) L else .bad
  | .lst xs, .lst ys => if xs.length + ys.length ≤ sz then .ok (.lst (xs ++ ys)) L else .bad
  | .tup xs, .tup ys => if xs ≠ [] ∧ xs.length + ys.length ≤ sz then .ok (.tup (xs ++ ys)) L else .bad
  | _, _ => .bad
def mulD (x y : D) (L : LH) : Res D := match deref L x, y with
  | .int i, .int j => if (-(2 ^ 64) < i ∧ i < 2 ^ 64) ∨ (-(2 ^ 64) < j ∧ j < 2 ^ 64) then .ok (.int (i * j)) L else .bad
  | .lst xs, .int k => if -(2 ^ 63) ≤ k ∧ k < 2 ^ 63 ∧ xs.length * k.toNat ≤ sz then .ok (.lst (List.replicate k.toNat xs).flatten) L else .bad
  | _, _ => .bad
def modD (x y : D) (L : LH) : Res D := match x, y with
  | .int i, .int j => if 0 < j then .ok (.int (i % j)) L else .bad
  | _, _ => .bad
def divD (x y : D) (L : LH) : Res D := match x, y with
  | .int i, .int j => if 0 < j ∧ j < 1073741824 then .ok (.int (i / j)) L else .bad
  | _, _ => .bad
def keyOf : D → Option Key
  | .int i => some (.inl i)
  | .str x => some (.inr x)
  | _ => none
/-- a dict's look-up -/
def look : List Key → List D → Key → Option D
  | k :: ks, x :: xs, k' => if k = k' then some x else look ks xs k'
  | _, _, _ => none
def lookPut : List Key → List D → Key → D → List Key × List D
  | k :: ks, x :: xs, k', y => if k = k' then (k :: ks, y :: xs) else
    let r := lookPut ks xs k' y
    (k :: r.1, x :: r.2)
  | _, _, k', y => ([k'], [y])
def ixD (x y : D) (L : LH) : Res D := match deref L x, y with
  | .tup xs, .int i => match L2.atI xs i with
    | some d => .ok d L
    | none => .bad
  | .lst xs, .int i => match L2.atI xs i with
    | some d => .ok d L
    | none => .bad
  | .scr xs, .int i => match L2.atI xs i with
    | some d => .ok (.int d) L
    | none => .bad
  | .dct ks xs, y => match (keyOf y).bind (look ks xs) with
    | some d => .ok d L
    | none => .bad
  | .str z, .int i => if z.length ≤ sz then (match L2.atI z.cps.toList i with
    | some c => .ok (.str ⟨#[c]⟩) L
    | none => .bad) else .bad
  | _, _ => .bad
def lenD (x : D) (L : LH) : Res D := match deref L x with
  | .tup xs => .ok (.int xs.length) L
  | .lst xs => .ok (.int xs.length) L
  | .scr xs => .ok (.int xs.length) L
  | .dct ks _ => .ok (.int ks.length) L
  | .str z => if z.length ≤ sz then .ok (.int z.length) L else .bad
  | _ => .bad
/-! ### objects -/
def insAt (L : LH) (x : D) : Option (Nat × Str × List (Str × D)) := match x with
  | .ref i => match L[i]? with
    | some (some (.ins c fs)) => some (i, c, fs)
    | _ => none
  | _ => none
def fldD (f : Str) (x : D) (L : LH) : Res D := match insAt L x with
  | some (_, _, fs) => match fs.lookup f with
    | some d => .ok d L
    | none => .bad
  | none => .bad
def putFD (f : Str) (d : D) : List (Str × D) → List (Str × D)
  | [] => [(f, d)]
  | (g, x) :: r => if g = f then (g, d) :: r else (g, x) :: putFD f d r
/-! ### statements -/
inductive Fl where
  | nx | rt (d : D) | bk | ct
abbrev Sm := Rho → LH → Res (Fl × Rho)
def sSeq (a b : Sm) : Sm := fun ρ L => (a ρ L).bind fun r L => match r with
  | (.nx, ρ) => b ρ L
  | r => .ok r L
def sNil : Sm := fun ρ L => .ok (.nx, ρ) L
def sRet (a : Ex) : Sm := fun ρ L => (a ρ L).bind fun d L => .ok (.rt d, ρ) L
def sRetN : Sm := fun ρ L => .ok (.rt .non, ρ) L
def sDrop (a : Ex) : Sm := fun ρ L => (a ρ L).bind fun _ L => .ok (.nx, ρ) L
def sIf (t : Te) (a b : Sm) : Sm := fun ρ L => (t ρ L).bind fun c L => if c = true then a ρ L else b ρ L
def sBk : Sm := fun ρ L => .ok (.bk, ρ) L
def sCt : Sm := fun ρ L => .ok (.ct, ρ) L
/-- a dict's store: in its place, or at the end -/
def repl : List Key → List D → Key → D → List D
  | k :: ks, x :: xs, k', y => (if k = k' then y else x) :: repl ks xs k' y
  | _, _, _, _ => []
def dput (ks : List Key) (xs : List D) (k : Key) (y : D) : List Key × List D := if (ks.any fun j => decide (j = k)) = true then (ks, repl ks xs k y) else (ks ++ [k], xs ++ [y])
def setFld (c f : Str) (d x : D) (L : LH) : Res Unit := match insAt L x with
  | some (i, c', fs) => if c' = c ∧ fs.length < 1000 then .ok () (L.set i (some (.ins c (putFD f d fs)))) else .bad
  | none => .bad
def setIx (x y d : D) (L : LH) : Res Unit := match x with
  | .ref i => match L[i]? with
    | some (some (.lst xs)) => match y with
      | .int k => match L2.ixN xs.length k with
        | some j => .ok () (L.set i (some (.lst (xs.set j d))))
        | none => .bad
      | _ => .bad
    | some (some (.dct ks xs)) => match keyOf y with
      | some k => if ks.length < sz then .ok () (L.set i (some (.dct (dput ks xs k d).1 (dput ks xs k d).2))) else .bad
      | none => .bad
    | _ => .bad
  | _ => .bad
/-- targets: a name's slot, several of them, a field, an item -/
inductive Tg where
  | nm (i : Nat) | tp (ts : List Tg) | fld (c f : Str) (o : Ex) | sub (o i : Ex)
mutual
def Tg.slots : Tg → List Nat
  | .nm i => [i]
  | .tp ts => slotsA ts
  | _ => []
def slotsA : List Tg → List Nat
  | [] => []
  | t :: ts => t.slots ++ slotsA ts
end
mutual
def Tg.put : Tg → D → Rho → LH → Res Rho
  | .nm i, d, ρ, L => .ok (ρ.set i (some d)) L
  | .tp ts, .tup xs, ρ, L => if xs.length = ts.length then putA ts xs ρ L else .bad
  | .tp _, _, _, _ => .bad
  | .fld c f o, d, ρ, L => (o ρ L).bind fun x L => (setFld c f d x L).bind fun _ L => .ok ρ L
  | .sub o i, d, ρ, L => (o ρ L).bind fun x L => (i ρ L).bind fun y L => (setIx x y d L).bind fun _ L => .ok ρ L
def putA : List Tg → List D → Rho → LH → Res Rho
  | t :: ts, d :: ds, ρ, L => (t.put d ρ L).bind (putA ts ds)
  | [], [], ρ, L => .ok ρ L
  | _, _, _, _ => .bad
end
def sAsg (t : Tg) (a : Ex) : Sm := fun ρ L => (a ρ L).bind fun d L => (t.put d ρ L).bind fun ρ L => .ok (.nx, ρ) L
/-- what is walked: the items; the object that has to stay as it is meanwhile -/
structure Wk where
  ds : List D
  g : Option (Nat × List D) := none
abbrev It := Rho → LH → Res Wk
/-- whether a walked object stands as it stood -/
def stays : Option (Nat × List D) → LH → Prop
  | none, _ => True
  | some (i, xs), L => L[i]? = some (some (.lst xs))
open Classical in
noncomputable def forGo (g : Option (Nat × List D)) (t : Tg) (b : Sm) : List D → Sm
  | [], ρ, L => if stays g L then .ok (.nx, ρ) L else .bad
  | d :: ds, ρ, L => if stays g L then (t.put d ρ L).bind fun ρ L => (b ρ L).bind fun r L => match r with
      | (.nx, ρ) => forGo g t b ds ρ L
      | (.ct, ρ) => forGo g t b ds ρ L
      | (.bk, ρ) => .ok (.nx, ρ) L
      | (.rt d, ρ) => .ok (.rt d, ρ) L
    else .bad
noncomputable def sFor (it : It) (t : Tg) (b : Sm) : Sm := fun ρ L => (it ρ L).bind fun w L => forGo w.g t b w.ds ρ L
def whGo (t : Te) (b : Sm) : Nat → Sm
  | 0, _, _ => .bad
  | n + 1, ρ, L => (t ρ L).bind fun c L => if c = true then (b ρ L).bind fun r L => match r with
      | (.nx, ρ) => whGo t b n ρ L
      | (.ct, ρ) => whGo t b n ρ L
      | (.bk, ρ) => .ok (.nx, ρ) L
      | (.rt d, ρ) => .ok (.rt d, ρ) L
    else .ok (.nx, ρ) L
/-- a while's turns: more than enough -/
def fuel : Nat := 1000000000
def sWh (t : Te) (b : Sm) : Sm := whGo t b fuel
/-! ### comprehensions: the names of the block are its own -/
def wipeR (ρ : Rho) : List Nat → Rho
  | [] => ρ
  | v :: vs => (wipeR ρ vs).set v none
def teAll : List Te → Te
  | [] => fun _ L => .ok true L
  | [t] => t
  | t :: ts => tAnd t (teAll ts)
open Classical in
/-- the items that a clause's turns give -/
noncomputable def lcGo (g : Option (Nat × List D)) (t : Tg) (c : Te) (e : Rho → LH → Res (List D)) (ρ : Rho) : List D → LH → Res (List D)
  | [], L => if stays g L then .ok [] L else .bad
  | d :: ds, L => if stays g L then (t.put d ρ L).bind fun ρ' L => (c ρ' L).bind fun b L => if b = true then (e ρ' L).bind fun xs L => (lcGo g t c e ρ ds L).bind fun ys L => .ok (xs ++ ys) L
      else lcGo g t c e ρ ds L
    else .bad
/-- one clause -/
structure Cl where
  it : It
  tg : Tg
  te : Te
/-- the slots that clauses store to -/
def slR : List Cl → List Nat
  | [] => []
  | c :: cs => c.tg.slots ++ slR cs
noncomputable def lcs : List Cl → Ex → Rho → LH → Res (List D)
  | [], e, ρ, L => (e ρ L).bind fun d L => .ok [d] L
  | c :: cs, e, ρ, L => (c.it ρ L).bind fun w L => lcGo w.g c.tg c.te (lcs cs e) (wipeR ρ (slR (c :: cs))) w.ds L
noncomputable def eLc (vs : List Nat) (c : Cl) (cs : List Cl) (e : Ex) : Ex := fun ρ L => (c.it ρ L).bind fun w L => (lcGo w.g c.tg c.te (lcs cs e) (wipeR ρ vs) w.ds L).bind fun xs L => if xs.length ≤ sz then .ok (.lst xs) L else .bad
/-! ### defs -/
def runD (n : Nat) (b : Sm) : Fu := fun ds L => (b (ds.map some ++ List.replicate (n - ds.length) none) L).bind fun r L => match r with
  | (.nx, _) => .ok .non L
  | (.rt d, _) => .ok d L
  | _ => .bad
def eCall (F : Fu) (es : List Ex) : Ex := fun ρ L => (eArgs es ρ L).bind F
end Cz
set_option linter.all false
set_option autoImplicit false
set_option maxRecDepth 100000
/-! The data layer: how plain data lie in the heap. -/
namespace Cz
open PySem L2
/-- the written part, the module's names -/
structure Wd where
  K : PySem.W.Frag
  mg : Str → Option Value
/-- where the numbered things lie; what is being made just now -/
structure Io where
  io : Nat → Option Addr
  z : Addr → Prop
def Lv (ι : Io) (L : LH) (a : Addr) : Prop := (∃ i o, ι.io i = some a ∧ L[i]? = some (some o)) ∨ ι.z a
/-- a list that nobody changes: from outside, or the module's own -/
def ScrAt (K : PySem.W.Frag) (H : Hp) (a : Addr) (xs : List V) : Prop := (∃ o, H a = some (.frz o (.lst xs))) ∨
  ∃ (o : Obj) (its : Array Value) (n : Nat), K.lookup a = some o ∧ o.cls = .type "list" ∧ o.dict = none ∧ o.data = .seq its n ∧ its.size ≤ sizeLine ∧ Vals xs its.toList
mutual
inductive Rp (W : Wd) (ι : Io) (lv : Addr → Prop) (H : Hp) : V → D → Prop
  | non : Rp W ι lv H .non .non
  | bl (b : Bool) : Rp W ι lv H (.bl b) (.bl b)
  | int (i : Int) : Rp W ι lv H (.int i) (.int i)
  | str (x : Str) : Rp W ι lv H (.str x) (.str x)
  | ty (n : String) : Rp W ι lv H (.ty n) (.ty n)
  | tup {a : Addr} {vs : List V} {xs : List D} : SqT W.K H a vs → RpA W ι lv H vs xs → Rp W ι lv H (.ref a) (.tup xs)
  | lst {a : Addr} {vs : List V} {xs : List D} : H a = some (.lst vs) → ¬ lv a → RpA W ι lv H vs xs → Rp W ι lv H (.ref a) (.lst xs)
  | dct {a : Addr} {kvs : List (Key × V)} {ks : List Key} {xs : List D} : H a = some (.dK kvs) → ¬ lv a → kvs.map (·.1) = ks → RpA W ι lv H (kvs.map (·.2)) xs → Rp W ι lv H (.ref a) (.dct ks xs)
  | scr {a : Addr} {xs : List Int} : ScrAt W.K H a (xs.map V.int) → Rp W ι lv H (.ref a) (.scr xs)
  | ref {a : Addr} {i : Nat} : ι.io i = some a → Rp W ι lv H (.ref a) (.ref i)
  | fn {a : Addr} {f : Str} : W.mg f = some (.ref a) → Rp W ι lv H (.ref a) (.fn f)
  | exn {a C d : Addr} {c f : Str} {v : V} {x : D} : W.mg c = some (.ref C) → H a = some (exo a C (some d)) → ¬ lv a → H d = some (exd d [(f, v)]) → ¬ lv d → Rp W ι lv H v x → Rp W ι lv H (.ref a) (.exn c f x)
  | exn0 {a C : Addr} {c : Str} : W.mg c = some (.ref C) → H a = some (exo a C none) → ¬ lv a → Rp W ι lv H (.ref a) (.exn0 c)
inductive RpA (W : Wd) (ι : Io) (lv : Addr → Prop) (H : Hp) : List V → List D → Prop
  | nil : RpA W ι lv H [] []
  | cons {v : V} {vs : List V} {d : D} {ds : List D} : Rp W ι lv H v d → RpA W ι lv H vs ds → RpA W ι lv H (v :: vs) (d :: ds)
end
section
variable {W : Wd} {ι ι' : Io} {L L' : LH} {H H' : Hp} {lv lv' : Addr → Prop}
theorem RpA.length : ∀ {vs : List V} {xs : List D}, RpA W ι lv H vs xs → vs.length = xs.length
  | _, _, .nil => rfl
  | _, _, .cons _ r => by simp [r.length]
theorem RpA.get : ∀ {vs : List V} {xs : List D} {i : Nat} {x : D}, RpA W ι lv H vs xs → xs[i]? = some x → ∃ v, vs[i]? = some v ∧ Rp W ι lv H v x
  | _, _, _, _, .nil, h => by simp at h
  | _, _, 0, _, .cons r _, h => by
    simp at h; subst h; exact ⟨_, by simp, r⟩
  | _, _, i + 1, _, .cons _ r, h => by
    simp at h; obtain ⟨v, hv, rv⟩ := r.get h; exact ⟨v, by simpa using hv, rv⟩
theorem RpA.getV : ∀ {vs : List V} {xs : List D} {i : Nat} {v : V}, RpA W ι lv H vs xs → vs[i]? = some v → ∃ x, xs[i]? = some x ∧ Rp W ι lv H v x
  | _, _, _, _, .nil, h => by simp at h
  | _, _, 0, _, .cons r _, h => by
    simp at h; subst h; exact ⟨_, by simp, r⟩
  | _, _, i + 1, _, .cons _ r, h => by
    simp at h; obtain ⟨v, hv, rv⟩ := r.getV h; exact ⟨v, by simpa using hv, rv⟩
theorem RpA.append : ∀ {vs ws : List V} {xs ys : List D}, RpA W ι lv H vs xs → RpA W ι lv H ws ys → RpA W ι lv H (vs ++ ws) (xs ++ ys)
  | _, _, _, _, .nil, s => s
  | _, _, _, _, .cons r rs, s => .cons r (rs.append s)
theorem RpA.drop : ∀ {vs : List V} {xs : List D} (n : Nat), RpA W ι lv H vs xs → RpA W ι lv H (vs.drop n) (xs.drop n)
  | _, _, 0, r => by simpa using r
  | _, _, _ + 1, .nil => by simpa using RpA.nil
  | _, _, n + 1, .cons _ r => by simpa using r.drop n
theorem RpA.take : ∀ {vs : List V} {xs : List D} (n : Nat), RpA W ι lv H vs xs → RpA W ι lv H (vs.take n) (xs.take n)
  | _, _, 0, r => by simpa using RpA.nil
  | _, _, _ + 1, .nil => by simpa using RpA.nil
  | _, _, n + 1, .cons q r => by simpa using RpA.cons q (r.take n)
theorem RpA.set {v : V} {x : D} (q : Rp W ι lv H v x) : ∀ {vs : List V} {xs : List D} (n : Nat), RpA W ι lv H vs xs → RpA W ι lv H (vs.set n v) (xs.set n x)
  | _, _, _, .nil => by simpa using RpA.nil
  | _, _, 0, .cons _ r => by simpa using RpA.cons q r
  | _, _, n + 1, .cons p r => by simpa using RpA.cons p (r.set q n)
theorem RpA.reverse {vs : List V} {xs : List D} (r : RpA W ι lv H vs xs) : RpA W ι lv H vs.reverse xs.reverse := by
  induction vs generalizing xs with
  | nil => cases r; simpa using RpA.nil
  | cons v vs ih => cases r with
    | cons p q => simpa using (ih q).append (.cons p .nil)
theorem RpA.dropLast {vs : List V} {xs : List D} (r : RpA W ι lv H vs xs) : RpA W ι lv H vs.dropLast xs.dropLast := by
  rw [List.dropLast_eq_take, List.dropLast_eq_take, r.length]; exact r.take _
theorem RpA.rep {vs : List V} {xs : List D} (r : RpA W ι lv H vs xs) : ∀ k : Nat, RpA W ι lv H (List.replicate k vs).flatten (List.replicate k xs).flatten
  | 0 => by simpa using RpA.nil
  | k + 1 => by simpa [List.replicate_succ] using r.append (r.rep k)
theorem RpA.one {v : V} {x : D} (r : Rp W ι lv H v x) : RpA W ι lv H [v] [x] := .cons r .nil
/-- what stands stays: references, and whatever is tracked and not live -/
structure Lb (ι : Io) (L : LH) (H : Hp) (ι' : Io) (L' : LH) (H' : Hp) : Prop where
  io : ∀ i a, ι.io i = some a → ι'.io i = some a
  nl : ∀ a o, H a = some o → ¬ Lv ι L a → H' a = some o ∧ ¬ Lv ι' L' a
structure Lc (ι : Io) (L : LH) (H : Hp) (ι' : Io) (L' : LH) (H' : Hp) : Prop extends Lb ι L H ι' L' H' where
  zz : ι'.z = ι.z
/-- .. and what is being made -/
structure Le (ι : Io) (L : LH) (H : Hp) (ι' : Io) (L' : LH) (H' : Hp) : Prop extends Lc ι L H ι' L' H' where
  zk : ∀ a, ι.z a → H' a = H a
theorem Le.refl : Le ι L H ι L H := ⟨⟨⟨fun _ _ h => h, fun _ _ h n => ⟨h, n⟩⟩, rfl⟩, fun _ _ => rfl⟩
theorem Lc.trans {ι'' : Io} {L'' : LH} {H'' : Hp} (p : Lc ι L H ι' L' H') (q : Lc ι' L' H' ι'' L'' H'') : Lc ι L H ι'' L'' H'' :=
  ⟨⟨fun i a h => q.io _ _ (p.io _ _ h), fun a o h n => let ⟨h1, n1⟩ := p.nl a o h n; q.nl a o h1 n1⟩, q.zz.trans p.zz⟩
theorem Le.trans {ι'' : Io} {L'' : LH} {H'' : Hp} (p : Le ι L H ι' L' H') (q : Le ι' L' H' ι'' L'' H'') : Le ι L H ι'' L'' H'' :=
  ⟨p.toLc.trans q.toLc, fun a h => (q.zk a (by rw [p.zz]; exact h)).trans (p.zk a h)⟩
/-- a live object -/
def RO (W : Wd) (ι : Io) (lv : Addr → Prop) (H : Hp) (a : Addr) : O → Prop
  | .lst xs => ∃ vs, H a = some (.lst vs) ∧ RpA W ι lv H vs xs
  | .dct ks xs => ∃ kvs, H a = some (.dK kvs) ∧ kvs.map (·.1) = ks ∧ RpA W ι lv H (kvs.map (·.2)) xs
  | .ins c fs => ∃ C dx vs, W.mg c = some (.ref C) ∧ H a = some (.ins C dx vs) ∧ vs.map (·.1) = fs.map (·.1) ∧ RpA W ι lv H (vs.map (·.2)) (fs.map (·.2))
structure Good (W : Wd) (ι : Io) (L : LH) (H : Hp) : Prop where
  inj : ∀ i j a, ι.io i = some a → ι.io j = some a → i = j
  dom : ∀ i a, ι.io i = some a → ∃ o, H a = some o
  bnd : ∀ i a, ι.io i = some a → i < L.length
  zd : ∀ a, ι.z a → (∃ vs, H a = some (.lst vs)) ∨ ∃ kvs, H a = some (.dK kvs)
  zi : ∀ i a, ι.io i = some a → ¬ ι.z a
  obj : ∀ i o, L[i]? = some (some o) → ∃ a, ι.io i = some a ∧ RO W ι (Lv ι L) H a o
theorem RO.kind {a : Addr} {o : O} (r : RO W ι lv H a o) : (∃ vs, H a = some (.lst vs)) ∨ (∃ kvs, H a = some (.dK kvs)) ∨ ∃ C dx vs, H a = some (.ins C dx vs) := by
  cases o with
  | lst xs => obtain ⟨vs, h, _⟩ := r; exact .inl ⟨vs, h⟩
  | dct ks xs => obtain ⟨vs, h, _⟩ := r; exact .inr (.inl ⟨vs, h⟩)
  | ins c fs => obtain ⟨C, dx, vs, _, h, _⟩ := r; exact .inr (.inr ⟨C, dx, vs, h⟩)
theorem Good.live (g : Good W ι L H) {a : Addr} (h : Lv ι L a) : (∃ vs, H a = some (.lst vs)) ∨ (∃ kvs, H a = some (.dK kvs)) ∨ ∃ C dx vs, H a = some (.ins C dx vs) := by
  rcases h with ⟨i, o, hi, hL⟩ | hz
  · obtain ⟨b, hb, r⟩ := g.obj i o hL
    rw [hi] at hb; cases hb
    exact r.kind
  · rcases g.zd a hz with h | h
    · exact .inl h
    · exact .inr (.inl h)
theorem Good.notTup (g : Good W ι L H) {a : Addr} {vs : List V} (h : H a = some (.tup vs)) : ¬ Lv ι L a := fun l => by
  rcases g.live l with ⟨_, e⟩ | ⟨_, e⟩ | ⟨_, _, _, e⟩ <;> rw [h] at e <;> cases e
theorem Good.notFrz (g : Good W ι L H) {a : Addr} {o : Obj} {u : HO} (h : H a = some (.frz o u)) : ¬ Lv ι L a := fun l => by
  rcases g.live l with ⟨_, e⟩ | ⟨_, e⟩ | ⟨_, _, _, e⟩ <;> rw [h] at e <;> cases e
theorem SqT.monoC (g : Good W ι L H) (le : Lb ι L H ι' L' H') {a : Addr} {vs : List V} (h : SqT W.K H a vs) : SqT W.K H' a vs := by
  rcases h with (h | ⟨o, h⟩) | h
  · exact .inl (.inl (le.nl _ _ h (g.notTup h)).1)
  · exact .inl (.inr ⟨o, (le.nl _ _ h (g.notFrz h)).1⟩)
  · exact .inr h
theorem ScrAt.sql {K : PySem.W.Frag} {a : Addr} {xs : List V} (h : ScrAt K H a xs) : SqL K H a xs := h.elim (fun ⟨o, h⟩ => .inl (.inr ⟨o, h⟩)) fun h => .inr h
theorem ScrAt.ty {K : PySem.W.Frag} {a : Addr} {xs : List V} (h : ScrAt K H a xs) : TyX K H (.ref a) (.type "list") := h.elim (fun ⟨o, h⟩ => .base (.frz h)) fun ⟨o, its, n, h1, h2, _⟩ => .kList h1 h2
theorem ScrAt.monoC (g : Good W ι L H) (le : Lb ι L H ι' L' H') {a : Addr} {xs : List V} (h : ScrAt W.K H a xs) : ScrAt W.K H' a xs := h.elim (fun ⟨o, h⟩ => .inl ⟨o, (le.nl _ _ h (g.notFrz h)).1⟩) .inr
mutual
theorem Rp.monoC (g : Good W ι L H) (le : Lb ι L H ι' L' H') : ∀ {v : V} {d : D}, Rp W ι (Lv ι L) H v d → Rp W ι' (Lv ι' L') H' v d
  | _, _, .non => .non
  | _, _, .bl b => .bl b
  | _, _, .int i => .int i
  | _, _, .str x => .str x
  | _, _, .ty n => .ty n
  | _, _, .tup h r => .tup (SqT.monoC g le h) (RpA.monoC g le r)
  | _, _, .lst h n r => .lst (le.nl _ _ h n).1 (le.nl _ _ h n).2 (RpA.monoC g le r)
  | _, _, .dct h n e r => .dct (le.nl _ _ h n).1 (le.nl _ _ h n).2 e (RpA.monoC g le r)
  | _, _, .scr h => .scr (ScrAt.monoC g le h)
  | _, _, .ref h => .ref (le.io _ _ h)
  | _, _, .fn h => .fn h
  | _, _, .exn c h n h2 n2 r => .exn c (le.nl _ _ h n).1 (le.nl _ _ h n).2 (le.nl _ _ h2 n2).1 (le.nl _ _ h2 n2).2 (Rp.monoC g le r)
  | _, _, .exn0 c h n => .exn0 c (le.nl _ _ h n).1 (le.nl _ _ h n).2
theorem RpA.monoC (g : Good W ι L H) (le : Lb ι L H ι' L' H') : ∀ {vs : List V} {ds : List D}, RpA W ι (Lv ι L) H vs ds → RpA W ι' (Lv ι' L') H' vs ds
  | _, _, .nil => .nil
  | _, _, .cons h r => .cons (Rp.monoC g le h) (RpA.monoC g le r)
end
theorem SqT.mono (g : Good W ι L H) (le : Le ι L H ι' L' H') {a : Addr} {vs : List V} (h : SqT W.K H a vs) : SqT W.K H' a vs := SqT.monoC g le.toLb h
theorem Rp.mono (g : Good W ι L H) (le : Le ι L H ι' L' H') {v : V} {d : D} (h : Rp W ι (Lv ι L) H v d) : Rp W ι' (Lv ι' L') H' v d := Rp.monoC g le.toLb h
theorem RpA.mono (g : Good W ι L H) (le : Le ι L H ι' L' H') {vs : List V} {ds : List D} (h : RpA W ι (Lv ι L) H vs ds) : RpA W ι' (Lv ι' L') H' vs ds := RpA.monoC g le.toLb h
/-! ### the four steps -/
theorem Good.zFresh (g : Good W ι L H) {p : Addr} (hp : H p = none) : ¬ ι.z p := fun h => by
  rcases g.zd p h with ⟨_, e⟩ | ⟨_, e⟩ <;> rw [hp] at e <;> cases e
/-- a new thing that no reference names -/
theorem Le.laid (g : Good W ι L H) {p : Addr} {o : HO} (hp : H p = none) : Le ι L H ι L (upd H p o) :=
  ⟨⟨⟨fun _ _ h => h, fun a u h n => ⟨by rw [upd_ne (ne_of_none h hp)]; exact h, n⟩⟩, rfl⟩, fun a h => upd_ne fun e => g.zFresh hp (e ▸ h)⟩
theorem RO.mono (g : Good W ι L H) (le : Lb ι L H ι' L' H') {a : Addr} {o : O} (e : H' a = H a) (r : RO W ι (Lv ι L) H a o) : RO W ι' (Lv ι' L') H' a o := by
  cases o with
  | lst xs => obtain ⟨vs, h, q⟩ := r; exact ⟨vs, e.trans h, q.monoC g le⟩
  | dct ks xs => obtain ⟨vs, h, k, q⟩ := r; exact ⟨vs, e.trans h, k, q.monoC g le⟩
  | ins c fs => obtain ⟨C, dx, vs, hc, h, k, q⟩ := r; exact ⟨C, dx, vs, hc, e.trans h, k, q.monoC g le⟩
theorem zd_ne {p : Addr} {o : HO} (n : ∀ a, ι.z a → a ≠ p) (zd : ∀ a, ι.z a → (∃ vs, H a = some (.lst vs)) ∨ ∃ kvs, H a = some (.dK kvs)) : ∀ a, ι.z a → (∃ vs, upd H p o a = some (.lst vs)) ∨ ∃ kvs, upd H p o a = some (.dK kvs) := fun a h => by
  rw [upd_ne (n a h)]; exact zd a h
theorem Good.laid (g : Good W ι L H) {p : Addr} {o : HO} (hp : H p = none) : Good W ι L (upd H p o) := by
  have le := Le.laid (o := o) g hp
  refine ⟨g.inj, fun i a h => ?_, g.bnd, zd_ne (fun a h e => g.zFresh hp (e ▸ h)) g.zd, g.zi, fun i u h => ?_⟩
  · obtain ⟨u, hu⟩ := g.dom i a h
    exact ⟨u, by rw [upd_ne (ne_of_none hu hp)]; exact hu⟩
  · obtain ⟨a, ha, r⟩ := g.obj i u h
    obtain ⟨w, hw⟩ := g.dom i a ha
    exact ⟨a, ha, r.mono g le.toLb (upd_ne (ne_of_none hw hp))⟩
def ioPut (ι : Io) (n : Nat) (p : Addr) : Io := ⟨fun i => if i = n then some p else ι.io i, ι.z⟩
theorem ioPut_same {n : Nat} {p : Addr} : (ioPut ι n p).io n = some p := by simp [ioPut]
theorem ioPut_cs (g : Good W ι L H) {p : Addr} {i : Nat} {a : Addr} (h : (ioPut ι L.length p).io i = some a) : (i = L.length ∧ a = p) ∨ ι.io i = some a := by
  by_cases e : i = L.length
  · subst e; simp [ioPut] at h; exact .inl ⟨rfl, h.symm⟩
  · exact .inr (by simpa [ioPut, e] using h)
/-- a new thing, numbered -/
theorem Le.made (g : Good W ι L H) {p : Addr} {o : HO} {u : O} (hp : H p = none) : Le ι L H (ioPut ι L.length p) (L ++ [some u]) (upd H p o) := by
  refine ⟨⟨⟨fun i a h => ?_, fun a w h n => ?_⟩, rfl⟩, fun a h => upd_ne fun e => g.zFresh hp (e ▸ h)⟩
  · have := g.bnd i a h
    simp [ioPut, Nat.ne_of_lt this, h]
  · have hap := ne_of_none h hp
    refine ⟨by rw [upd_ne hap]; exact h, ?_⟩
    rintro (⟨i, o', hi, hL⟩ | hz)
    · rcases ioPut_cs g hi with ⟨_, e⟩ | hi'
      · exact hap e
      · have lt := g.bnd i a hi'
        rw [List.getElem?_append_left lt] at hL
        exact n (.inl ⟨i, o', hi', hL⟩)
    · exact n (.inr hz)
theorem Good.made (g : Good W ι L H) {p : Addr} {o : HO} {u : O} (hp : H p = none)
    (r : RO W (ioPut ι L.length p) (Lv (ioPut ι L.length p) (L ++ [some u])) (upd H p o) p u) : Good W (ioPut ι L.length p) (L ++ [some u]) (upd H p o) := by
  have le := Le.made (o := o) (u := u) g hp
  have ne : ∀ i a, ι.io i = some a → a ≠ p := fun i a h => by
    obtain ⟨w, hw⟩ := g.dom i a h
    exact ne_of_none hw hp
  refine ⟨fun i j a hi hj => ?_, fun i a h => ?_, fun i a h => ?_, zd_ne (fun a h e => g.zFresh hp (e ▸ h)) g.zd, fun i a h => ?_, fun i w h => ?_⟩
  · rcases ioPut_cs g hi with ⟨e1, e2⟩ | h1 <;> rcases ioPut_cs g hj with ⟨e3, e4⟩ | h2
    · rw [e1, e3]
    · exact absurd e2 (ne j a h2)
    · exact absurd e4 (ne i a h1)
    · exact g.inj i j a h1 h2
  · rcases ioPut_cs g h with ⟨_, e⟩ | h1
    · subst e; exact ⟨o, upd_same⟩
    · obtain ⟨w, hw⟩ := g.dom i a h1
      exact ⟨w, by rw [upd_ne (ne i a h1)]; exact hw⟩
  · rcases ioPut_cs g h with ⟨e, _⟩ | h1
    · subst e; simp
    · have := g.bnd i a h1; simp; omega
  · rcases ioPut_cs g h with ⟨_, e⟩ | h1
    · subst e; exact g.zFresh hp
    · exact g.zi i a h1
  · by_cases e : i = L.length
    · subst e
      simp at h; subst h
      exact ⟨p, ioPut_same, r⟩
    · have lt : i < L.length := by
        have := (List.getElem?_eq_some_iff.mp h).1
        simp at this; omega
      rw [List.getElem?_append_left lt] at h
      obtain ⟨a, ha, q⟩ := g.obj i w h
      exact ⟨a, le.io _ _ ha, q.mono g le.toLb (upd_ne (ne i a ha))⟩
theorem lv_set {i : Nat} {u : O} {a : Addr} : Lv ι (L.set i (some u)) a → (∃ o, L[i]? = some (some o)) → Lv ι L a := by
  rintro (⟨j, o, hj, hL⟩ | hz) ⟨o', ho⟩
  · by_cases e : i = j
    · subst e; exact .inl ⟨i, o', hj, ho⟩
    · rw [List.getElem?_set_ne e] at hL
      exact .inl ⟨j, o, hj, hL⟩
  · exact .inr hz
/-- a live thing is written -/
theorem Le.write (g : Good W ι L H) {i : Nat} {a : Addr} {o u : O} {w : HO} (hi : ι.io i = some a) (hL : L[i]? = some (some o)) : Le ι L H ι (L.set i (some u)) (upd H a w) := by
  refine ⟨⟨⟨fun _ _ h => h, fun b v h n => ?_⟩, rfl⟩, fun b h => upd_ne fun e => g.zi i a hi (e ▸ h)⟩
  have nb : b ≠ a := fun e => n (e ▸ .inl ⟨i, o, hi, hL⟩)
  exact ⟨by rw [upd_ne nb]; exact h, fun l => n (lv_set l ⟨o, hL⟩)⟩
theorem Good.write (g : Good W ι L H) {i : Nat} {a : Addr} {o u : O} {w : HO} (hi : ι.io i = some a) (hL : L[i]? = some (some o))
    (r : RO W ι (Lv ι (L.set i (some u))) (upd H a w) a u) : Good W ι (L.set i (some u)) (upd H a w) := by
  have le := Le.write (u := u) (w := w) g hi hL
  refine ⟨g.inj, fun j b h => ?_, fun j b h => by have := g.bnd j b h; simpa using this, zd_ne (fun b h e => g.zi i a hi (e ▸ h)) g.zd, g.zi, fun j v h => ?_⟩
  · by_cases e : b = a
    · subst e; exact ⟨w, upd_same⟩
    · obtain ⟨v, hv⟩ := g.dom j b h
      exact ⟨v, by rw [upd_ne e]; exact hv⟩
  · by_cases e : i = j
    · subst e
      have lt := (List.getElem?_eq_some_iff.mp hL).1
      rw [List.getElem?_set_self lt] at h
      cases h
      exact ⟨a, hi, r⟩
    · rw [List.getElem?_set_ne e] at h
      obtain ⟨b, hb, q⟩ := g.obj j v h
      have nb : b ≠ a := fun z => e (g.inj i j a hi (z ▸ hb))
      exact ⟨b, hb, q.mono g le.toLb (upd_ne nb)⟩
theorem lv_drop {i : Nat} {a : Addr} : Lv ι (L.set i none) a → Lv ι L a := by
  rintro (⟨j, o, hj, hL⟩ | hz)
  · by_cases e : i = j
    · subst e
      by_cases lt : i < L.length
      · rw [List.getElem?_set_self lt] at hL; cases hL
      · rw [List.getElem?_eq_none (by simpa using Nat.le_of_not_lt lt)] at hL; cases hL
    · rw [List.getElem?_set_ne e] at hL
      exact .inl ⟨j, o, hj, hL⟩
  · exact .inr hz
/-- a live thing is let go: it stays as it is -/
theorem Le.drop {i : Nat} : Le ι L H ι (L.set i none) H := ⟨⟨⟨fun _ _ h => h, fun b v h n => ⟨h, fun l => n (lv_drop l)⟩⟩, rfl⟩, fun _ _ => rfl⟩
theorem Good.drop (g : Good W ι L H) {i : Nat} : Good W ι (L.set i none) H := by
  refine ⟨g.inj, g.dom, fun j b h => by have := g.bnd j b h; simpa using this, g.zd, g.zi, fun j v h => ?_⟩
  by_cases e : i = j
  · subst e
    by_cases lt : i < L.length
    · rw [List.getElem?_set_self lt] at h; cases h
    · rw [List.getElem?_eq_none (by simpa using Nat.le_of_not_lt lt)] at h; cases h
  · rw [List.getElem?_set_ne e] at h
    obtain ⟨b, hb, q⟩ := g.obj j v h
    exact ⟨b, hb, q.mono g Le.drop.toLb rfl⟩
theorem Good.dropped (g : Good W ι L H) {i : Nat} {a : Addr} (hi : ι.io i = some a) : ¬ Lv ι (L.set i none) a := by
  rintro (⟨j, o, hj, hL⟩ | hz)
  · have e := g.inj i j a hi hj
    subst e
    have lt := g.bnd i a hi
    rw [List.getElem?_set_self lt] at hL; cases hL
  · exact g.zi i a hi hz
/-! ### what is being made -/
def zPut (ι : Io) (p : Addr) : Io := ⟨ι.io, fun a => ι.z a ∨ a = p⟩
mutual
theorem Rp.weak {ι : Io} {lv lv' : Addr → Prop} {H : Hp} {z : Addr → Prop} (k : ∀ a, lv a → lv' a) : ∀ {v : V} {d : D}, Rp W ι lv' H v d → Rp W ⟨ι.io, z⟩ lv H v d
  | _, _, .non => .non
  | _, _, .bl b => .bl b
  | _, _, .int i => .int i
  | _, _, .str x => .str x
  | _, _, .ty n => .ty n
  | _, _, .tup h r => .tup h (RpA.weak k r)
  | _, _, .lst h n r => .lst h (fun l => n (k _ l)) (RpA.weak k r)
  | _, _, .dct h n e r => .dct h (fun l => n (k _ l)) e (RpA.weak k r)
  | _, _, .scr h => .scr h
  | _, _, .ref h => .ref h
  | _, _, .fn h => .fn h
  | _, _, .exn c h n h2 n2 r => .exn c h (fun l => n (k _ l)) h2 (fun l => n2 (k _ l)) (Rp.weak k r)
  | _, _, .exn0 c h n => .exn0 c h (fun l => n (k _ l))
theorem RpA.weak {ι : Io} {lv lv' : Addr → Prop} {H : Hp} {z : Addr → Prop} (k : ∀ a, lv a → lv' a) : ∀ {vs : List V} {ds : List D}, RpA W ι lv' H vs ds → RpA W ⟨ι.io, z⟩ lv H vs ds
  | _, _, .nil => .nil
  | _, _, .cons h r => .cons (Rp.weak k h) (RpA.weak k r)
end
theorem RO.weak {ι : Io} {lv lv' : Addr → Prop} {H : Hp} {z : Addr → Prop} (k : ∀ a, lv a → lv' a) {a : Addr} {o : O} (r : RO W ι lv' H a o) : RO W ⟨ι.io, z⟩ lv H a o := by
  cases o with
  | lst xs => obtain ⟨vs, h, q⟩ := r; exact ⟨vs, h, q.weak k⟩
  | dct ks xs => obtain ⟨vs, h, e, q⟩ := r; exact ⟨vs, h, e, q.weak k⟩
  | ins c fs => obtain ⟨C, dx, vs, hc, h, e, q⟩ := r; exact ⟨C, dx, vs, hc, h, e, q.weak k⟩
theorem lv_zPut {p a : Addr} : Lv (zPut ι p) L a ↔ Lv ι L a ∨ a = p := by
  unfold Lv zPut
  exact ⟨fun h => h.elim (fun h => .inl (.inl h)) fun h => h.elim (fun h => .inl (.inr h)) .inr, fun h => h.elim (fun h => h.elim .inl fun h => .inr (.inl h)) fun h => .inr (.inr h)⟩
/-- what is being made may change; nothing else leans on it -/
theorem Good.remake (g : Good W ι L H) {p : Addr} {o : HO} (hz : ι.z p) (ho : (∃ vs, o = .lst vs) ∨ ∃ kvs, o = .dK kvs) : Good W ι L (upd H p o) ∧ Lc ι L H ι L (upd H p o) := by
  have nz : ∀ b, ¬ Lv ι L b → b ≠ p := fun b n e => by subst e; exact n (.inr hz)
  have ni : ∀ i a, ι.io i = some a → a ≠ p := fun i a h e => by subst e; exact g.zi i a h hz
  have lc : Lc ι L H ι L (upd H p o) := ⟨⟨fun _ _ h => h, fun b v h n => ⟨by rw [upd_ne (nz b n)]; exact h, n⟩⟩, rfl⟩
  refine ⟨⟨g.inj, fun i a h => ?_, g.bnd, fun a h => ?_, g.zi, fun i u h => ?_⟩, lc⟩
  · obtain ⟨u, hu⟩ := g.dom i a h
    exact ⟨u, by rw [upd_ne (ni i a h)]; exact hu⟩
  · by_cases e : a = p
    · subst e
      rcases ho with ⟨vs, rfl⟩ | ⟨kvs, rfl⟩
      · exact .inl ⟨vs, upd_same⟩
      · exact .inr ⟨kvs, upd_same⟩
    · rw [upd_ne e]; exact g.zd a h
  · obtain ⟨a, ha, r⟩ := g.obj i u h
    exact ⟨a, ha, r.mono g lc.toLb (upd_ne (ni i a ha))⟩
/-- a thing begins to be made -/
theorem Good.begin (g : Good W ι L H) {p : Addr} {o : HO} (hp : H p = none) (ho : (∃ vs, o = .lst vs) ∨ ∃ kvs, o = .dK kvs) : Good W (zPut ι p) L (upd H p o) := by
  have g' := g.laid (o := o) hp
  have ne : ∀ i a, ι.io i = some a → a ≠ p := fun i a h => by
    obtain ⟨w, hw⟩ := g.dom i a h
    exact ne_of_none hw hp
  refine ⟨g'.inj, g'.dom, g'.bnd, fun a h => ?_, fun i a h q => q.elim (g.zi i a h) (ne i a h), fun i u h => ?_⟩
  · rcases h with h | h
    · exact g'.zd a h
    · subst h
      rcases ho with ⟨vs, rfl⟩ | ⟨kvs, rfl⟩
      · exact .inl ⟨vs, upd_same⟩
      · exact .inr ⟨kvs, upd_same⟩
  · obtain ⟨a, ha, r⟩ := g.obj i u h
    have nlv : Lb ι L H (zPut ι p) L (upd H p o) := ⟨fun _ _ h => h, fun b w h n => by
      have nb := ne_of_none h hp
      exact ⟨by rw [upd_ne nb]; exact h, fun l => (lv_zPut.mp l).elim n nb⟩⟩
    exact ⟨a, ha, r.mono g nlv (upd_ne (ne i a ha))⟩
theorem Lb.begin {p : Addr} {o : HO} (hp : H p = none) : Lb ι L H (zPut ι p) L (upd H p o) := ⟨fun _ _ h => h, fun b w h n => by
      have nb := ne_of_none h hp
      exact ⟨by rw [upd_ne nb]; exact h, fun l => (lv_zPut.mp l).elim n nb⟩⟩
/-- it is made: from now on it stays -/
theorem Good.finish {p : Addr} {z : Addr → Prop} (g : Good W ⟨ι.io, z⟩ L H) (hz : ∀ a, z a ↔ ι.z a ∨ a = p) : Good W ι L H := by
  have k : ∀ a, Lv ι L a → Lv ⟨ι.io, z⟩ L a := fun a h => h.elim (fun h => .inl h) fun h => .inr ((hz a).mpr (.inl h))
  exact ⟨g.inj, g.dom, g.bnd, fun a h => g.zd a ((hz a).mpr (.inl h)), fun i a h q => g.zi i a h ((hz a).mpr (.inl q)), fun i u h => let ⟨a, ha, r⟩ := g.obj i u h; ⟨a, ha, RO.weak (ι := ⟨ι.io, z⟩) (z := ι.z) k r⟩⟩
/-! ### slots -/
structure RS (W : Wd) (ι : Io) (lv : Addr → Prop) (H : Hp) (σ : St) (ρ : Rho) : Prop where
  len : σ.length = ρ.length
  get : ∀ (i : Nat) (d : D), ρ[i]? = some (some d) → ∃ v, σ[i]? = some (some v) ∧ Rp W ι lv H v d
theorem RS.mono {σ : St} {ρ : Rho} (g : Good W ι L H) (le : Le ι L H ι' L' H') (r : RS W ι (Lv ι L) H σ ρ) : RS W ι' (Lv ι' L') H' σ ρ :=
  ⟨r.len, fun i d h => let ⟨v, hv, q⟩ := r.get i d h; ⟨v, hv, q.mono g le⟩⟩
theorem RS.set {σ : St} {ρ : Rho} (r : RS W ι lv H σ ρ) {v : V} {d : D} (q : Rp W ι lv H v d) (i : Nat) : RS W ι lv H (σ.set i (some v)) (ρ.set i (some d)) := by
  refine ⟨by simp [r.len], fun j e h => ?_⟩
  by_cases ij : i = j
  · subst ij
    by_cases lt : i < ρ.length
    · rw [List.getElem?_set_self lt] at h
      cases h
      exact ⟨v, by rw [List.getElem?_set_self (by rw [r.len]; exact lt)], q⟩
    · rw [List.getElem?_eq_none (by simpa using Nat.le_of_not_lt lt)] at h; cases h
  · rw [List.getElem?_set_ne ij] at h
    obtain ⟨w, hw, p⟩ := r.get j e h
    exact ⟨w, by rw [List.getElem?_set_ne ij]; exact hw, p⟩
theorem RS.unset {σ : St} {ρ : Rho} (r : RS W ι lv H σ ρ) (i : Nat) : RS W ι lv H (σ.set i none) (ρ.set i none) := by
  refine ⟨by simp [r.len], fun j e h => ?_⟩
  by_cases ij : i = j
  · subst ij
    by_cases lt : i < ρ.length
    · rw [List.getElem?_set_self lt] at h; cases h
    · rw [List.getElem?_eq_none (by simpa using Nat.le_of_not_lt lt)] at h; cases h
  · rw [List.getElem?_set_ne ij] at h
    obtain ⟨w, hw, p⟩ := r.get j e h
    exact ⟨w, by rw [List.getElem?_set_ne ij]; exact hw, p⟩
theorem RS.wipe {σ : St} {ρ : Rho} (r : RS W ι lv H σ ρ) : ∀ vs : List Nat, RS W ι lv H (L2.wipe σ vs) (wipeR ρ vs)
  | [] => r
  | v :: vs => (r.wipe vs).unset v
theorem RS.start {vs : List V} {ds : List D} (r : RpA W ι lv H vs ds) (n : Nat) (ns : List Str) (hn : ns.length = n) : RS W ι lv H (L2.start ns vs) (ds.map some ++ List.replicate (n - ds.length) none) := by
  have hl := r.length
  refine ⟨by simp [L2.start, hl, hn], fun i d h => ?_⟩
  by_cases lt : i < ds.length
  · rw [List.getElem?_append_left (by simpa using lt)] at h
    have h2 : ds[i]? = some d := by
      rw [List.getElem?_map] at h
      cases e : ds[i]? with
      | none => rw [e] at h; cases h
      | some y => rw [e] at h; cases h; rfl
    obtain ⟨v, hv, q⟩ := r.get h2
    refine ⟨v, ?_, q⟩
    unfold L2.start
    rw [List.getElem?_append_left (by simpa [hl] using lt), List.getElem?_map, hv]
    rfl
  · rw [List.getElem?_append_right (by simpa using Nat.le_of_not_lt lt)] at h
    rw [List.getElem?_replicate] at h
    split at h <;> cases h
end
end Cz
set_option linter.all false
set_option autoImplicit false
set_option maxRecDepth 100000
/-! The data layer: the judgements, values, operators, displays, subscripts. -/
namespace Cz
open PySem L2
abbrev _root_.L2.Cx.wd (X : Cx) : Wd := ⟨X.K, X.mg⟩
/-- behind a step: a value that stands for d -/
def Af (W : Wd) (ι : Io) (L : LH) (H : Hp) (d : D) (L' : LH) (Q : VK) : Prop := ∀ v ι' H', Le ι L H ι' L' H' → Good W ι' L' H' → Rp W ι' (Lv ι' L') H' v d → Q v H'
/-- the state at which a piece is run -/
structure Sa (W : Wd) (ι : Io) (L : LH) (H : Hp) (σ : St) (ρ : Rho) : Prop where
  g : Good W ι L H
  s : RS W ι (Lv ι L) H σ ρ
theorem Sa.next {W : Wd} {ι ι' : Io} {L L' : LH} {H H' : Hp} {σ : St} {ρ : Rho} (s : Sa W ι L H σ ρ) (le : Le ι L H ι' L' H') (g : Good W ι' L' H') : Sa W ι' L' H' σ ρ := ⟨g, s.s.mono s.g le⟩
def wE (W : Wd) (f : Ex) : TE := fun σ H Q => ∃ ι L ρ, Sa W ι L H σ ρ ∧ ∃ d L', f ρ L = .ok d L' ∧ Af W ι L H d L' Q
def wT (W : Wd) (f : Te) : TT := fun σ H Q => ∃ ι L ρ, Sa W ι L H σ ρ ∧ ∃ b L', f ρ L = .ok b L' ∧ ∀ ι' H', Le ι L H ι' L' H' → Good W ι' L' H' → Q b H'
def wA (W : Wd) (f : Rho → LH → Res (List D)) : TA := fun σ H Q => ∃ ι L ρ, Sa W ι L H σ ρ ∧ ∃ ds L', f ρ L = .ok ds L' ∧ ∀ vs ι' H', Le ι L H ι' L' H' → Good W ι' L' H' → RpA W ι' (Lv ι' L') H' vs ds → Q vs H'
abbrev PD (X : Cx) (e : Expr) (f : Ex) : Prop := PE X e (wE X.wd f)
abbrev PDT (X : Cx) (e : Expr) (f : Te) : Prop := PT X e (wT X.wd f)
abbrev PDW (X : Cx) (e : Expr) (f : Te) : Prop := PW X e (wT X.wd f)
abbrev PDA (X : Cx) (es : List Expr) (fs : List Ex) : Prop := PA X es (wA X.wd (eArgs fs))
theorem _root_.L2.PE.cq {X : Cx} {e : Expr} {t t' : TE} (h : PE X e t) (k : ∀ σ H Q, t' σ H Q → t σ H Q) : PE X e t' := ⟨fun pins s σ H Q I q => h.run pins s σ H Q I (k σ H Q q)⟩
theorem _root_.L2.PT.cq {X : Cx} {e : Expr} {t t' : TT} (h : PT X e t) (k : ∀ σ H Q, t' σ H Q → t σ H Q) : PT X e t' := ⟨fun pins s σ H Q I q => h.run pins s σ H Q I (k σ H Q q)⟩
theorem _root_.L2.PW.cq {X : Cx} {e : Expr} {t t' : TT} (h : PW X e t) (k : ∀ σ H Q, t' σ H Q → t σ H Q) : PW X e t' := ⟨fun wh pins s σ H Q I q => h.run wh pins s σ H Q I (k σ H Q q)⟩
theorem _root_.L2.PA.cq {X : Cx} {es : List Expr} {t t' : TA} (h : PA X es t) (k : ∀ σ H Q, t' σ H Q → t σ H Q) : PA X es t' := ⟨fun pos pins s σ H Q I q => h.run pos pins s σ H Q I (k σ H Q q)⟩
theorem _root_.L2.PS.cq {X : Cx} {st : Stmt} {t t' : TS} (h : PS X st t) (k : ∀ D σ H, t' D σ H → t D σ H) : PS X st t' := ⟨fun pins s σ H D I q => h.run pins s σ H D I (k D σ H q)⟩
theorem _root_.L2.PSs.cq {X : Cx} {st : List Stmt} {t t' : TS} (h : PSs X st t) (k : ∀ D σ H, t' D σ H → t D σ H) : PSs X st t' := ⟨fun pins s σ H D I q => h.run pins s σ H D I (k D σ H q)⟩
/-- two rules for one expression -/
theorem _root_.L2.PE.or {X : Cx} {e : Expr} {t t' : TE} (h : PE X e t) (h' : PE X e t') : PE X e (fun σ H Q => t σ H Q ∨ t' σ H Q) :=
  ⟨fun pins s σ H Q I q => q.elim (fun q => h.run pins s σ H Q I q) fun q => h'.run pins s σ H Q I q⟩
section
variable {X : Cx} {e a b c : Expr} {fa fb fc : Ex} {ta tb tc : Te} {pos : Pos}
theorem pd_var {i : Nat} {x : Str} (h : PE X (.Name x pos) (tVar i)) : PD X (.Name x pos) (eVar i) := h.cq fun σ H Q ⟨ι, L, ρ, s, d, L', hf, k⟩ => by
  unfold eVar at hf
  cases e : ρ[i]? with
  | none => rw [e] at hf; cases hf
  | some o => cases o with
    | none => rw [e] at hf; cases hf
    | some y =>
      rw [e] at hf
      cases hf
      obtain ⟨v, hv, r⟩ := s.s.get i _ e
      exact ⟨v, hv, k v ι H .refl s.g r⟩
/-- a constant's meaning does not lean on the heap -/
def Flat (W : Wd) (v : V) (d : D) : Prop := ∀ ι lv H, Rp W ι lv H v d
theorem pd_c {v : V} {d : D} (h : PE X e (tC v)) (r : Flat X.wd v d) : PD X e (eC d) := h.cq fun σ H Q ⟨ι, L, ρ, s, d, L', hf, k⟩ => by
  cases hf
  exact k v ι H .refl s.g (r _ _ _)
theorem pd_int {i : Int} {j} : PD X (.Constant (.int i) j pos) (eC (.int i)) := pd_c pe_int fun _ _ _ => .int i
theorem pd_bl {k : Bool} {j} : PD X (.Constant (.bool k) j pos) (eC (.bl k)) := pd_c pe_bl fun _ _ _ => .bl k
theorem pd_non {j} : PD X (.Constant .none j pos) (eC .non) := pd_c pe_non fun _ _ _ => .non
theorem pd_str {x j} : PD X (.Constant (.str x) j pos) (eC (.str x)) := pd_c pe_str fun _ _ _ => .str x
/-- two in a row -/
theorem two {W : Wd} {f g : Ex} {h : D → D → LH → Res D} {σ : St} {H : Hp} {Q : VK} {R : V → V → Hp → Prop} (q : wE W (e2 h f g) σ H Q)
    (k : ∀ ι L H x y dx dy d L', Good W ι L H → Rp W ι (Lv ι L) H x dx → Rp W ι (Lv ι L) H y dy → h dx dy L = .ok d L' → Af W ι L H d L' Q → R x y H) : wE W f σ H fun x H1 => wE W g σ H1 fun y H2 => R x y H2 := by
  obtain ⟨ι, L, ρ, s, d, L', hf, q⟩ := q
  obtain ⟨dx, L1, h1, hf⟩ := bind_inv hf
  obtain ⟨dy, L2, h2, hf⟩ := bind_inv hf
  refine ⟨ι, L, ρ, s, dx, L1, h1, fun x ι1 H1 le1 g1 r1 => ⟨ι1, L1, ρ, s.next le1 g1, dy, L2, h2, fun y ι2 H2 le2 g2 r2 => ?_⟩⟩
  exact k ι2 L2 H2 x y dx dy d L' g2 (r1.mono g1 le2) r2 hf fun v ι3 H3 le3 g3 r3 => q v ι3 H3 ((le1.trans le2).trans le3) g3 r3
theorem one {W : Wd} {f : Ex} {h : D → LH → Res D} {σ : St} {H : Hp} {Q : VK} {R : V → Hp → Prop} (q : wE W (e1 h f) σ H Q)
    (k : ∀ ι L H x dx d L', Good W ι L H → Rp W ι (Lv ι L) H x dx → h dx L = .ok d L' → Af W ι L H d L' Q → R x H) : wE W f σ H fun x H1 => R x H1 := by
  obtain ⟨ι, L, ρ, s, d, L', hf, q⟩ := q
  obtain ⟨dx, L1, h1, hf⟩ := bind_inv hf
  exact ⟨ι, L, ρ, s, dx, L1, h1, fun x ι1 H1 le1 g1 r1 => k ι1 L1 H1 x dx d L' g1 r1 hf fun v ι3 H3 le3 g3 r3 => q v ι3 H3 (le1.trans le3) g3 r3⟩
/-- an operator on values -/
def w2 (W : Wd) (g : D → D → LH → Res D) : R2 := fun x y H Q => ∃ ι L dx dy d L', Good W ι L H ∧ Rp W ι (Lv ι L) H x dx ∧ Rp W ι (Lv ι L) H y dy ∧ g dx dy L = .ok d L' ∧ Af W ι L H d L' Q
abbrev OpD (X : Cx) (f : Value → Value → Sem Value) (g : D → D → LH → Res D) : Prop := OpR X f (w2 X.wd g)
theorem _root_.L2.OpR.cq {f : Value → Value → Sem Value} {r r' : R2} (h : OpR X f r) (k : ∀ x y H Q, r' x y H Q → r x y H Q) : OpR X f r' :=
  fun pins s σ H x y v u Q I rx ry q => h pins s σ H x y v u Q I rx ry (k x y H Q q)
theorem pd_op {op : Operator} {g : D → D → LH → Res D} (ho : OpD X (binaryOp op) g) (ha : PD X a fa) (hb : PD X b fb) : PD X (.BinOp a op b pos) (e2 g fa fb) :=
  (pe_op ho ha hb).cq fun σ H Q q => two q fun ι L H x y dx dy d L' g rx ry h k => ⟨ι, L, dx, dy, d, L', g, rx, ry, h, k⟩
theorem pd_cmp {op : CmpOp} {g : D → D → LH → Res D} (ho : OpD X (compareOp op) g) (ha : PD X a fa) (hb : PD X b fb) (hm : behindInMarks op b = false) : PD X (.Compare a [op] [b] pos) (e2 g fa fb) :=
  (pe_cmpR ho ha hb hm).cq fun σ H Q q => two q fun ι L H x y dx dy d L' g rx ry h k => ⟨ι, L, dx, dy, d, L', g, rx, ry, h, k⟩
theorem Rp.bl_inv {W : Wd} {ι : Io} {lv : Addr → Prop} {H : Hp} {v : V} {k : Bool} (r : Rp W ι lv H v (.bl k)) : v = .bl k := by cases r; rfl
theorem Rp.int_inv {W : Wd} {ι : Io} {lv : Addr → Prop} {H : Hp} {v : V} {k : Int} (r : Rp W ι lv H v (.int k)) : v = .int k := by cases r; rfl
theorem Rp.str_inv {W : Wd} {ι : Io} {lv : Addr → Prop} {H : Hp} {v : V} {k : Str} (r : Rp W ι lv H v (.str k)) : v = .str k := by cases r; rfl
/-- a test, by a value that is True or False -/
theorem wT_of {W : Wd} {f : Ex} {σ : St} {H : Hp} {Q : Bool → Hp → Prop} (q : wT W (tE f) σ H Q) : wE W f σ H fun x H' => ∃ k, x = .bl k ∧ Q k H' := by
  obtain ⟨ι, L, ρ, s, b, L', hf, q⟩ := q
  obtain ⟨d, L1, h1, hf⟩ := bind_inv hf
  cases d <;> first | (cases hf) | skip
  refine ⟨ι, L, ρ, s, _, _, h1, fun v ι' H' le g r => ⟨_, r.bl_inv, q ι' H' le g⟩⟩
theorem pt_c {op : CmpOp} {g : D → D → LH → Res D} (ho : OpD X (compareOp op) g) (ha : PD X a fa) (hb : PD X b fb) (hm : behindInMarks op b = false) : PDT X (.Compare a [op] [b] pos) (tE (e2 g fa fb)) :=
  (pt_cmpR ho ha hb hm).cq fun σ H Q q => two (Q := fun x H' => ∃ k, x = .bl k ∧ Q k H') (wT_of q) fun ι L H x y dx dy d L' g rx ry h k => ⟨ι, L, dx, dy, d, L', g, rx, ry, h, k⟩
theorem pt_v (ha : PD X a fa) (he : ∀ whole, isTrue a X.env whole = (do let v ← whole; standAt a.pos; holding [v] (truthy v)) := by intro _; rfl) : PDT X a (tE fa) :=
  (pt_val ha he).cq fun σ H Q q => wT_of q
/-! ### and, or, not, if -/
theorem pt_n (ha : PDT X a ta) : PDT X (.UnaryOp .Not a pos) (tNot ta) := (pt_not ha).cq fun σ H Q ⟨ι, L, ρ, s, b, L', hf, q⟩ => by
  obtain ⟨c, L1, h1, hf⟩ := bind_inv hf
  cases hf
  exact ⟨ι, L, ρ, s, c, _, h1, q⟩
variable {rest : List Expr}
theorem pw_a1 (ha : PDT X a ta) : PDW X (.BoolOp .And [a] pos) ta := pw_and1 ha
theorem pw_o1 (ha : PDT X a ta) : PDW X (.BoolOp .Or [a] pos) ta := pw_or1 ha
theorem pw_a (ha : PDT X a ta) (hb : PDW X (.BoolOp .And (b :: rest) pos) tb) : PDW X (.BoolOp .And (a :: b :: rest) pos) (Cz.tAnd ta tb) := (pw_and ha hb).cq fun σ H Q ⟨ι, L, ρ, s, k, L', hf, q⟩ => by
  obtain ⟨c, L1, h1, hf⟩ := bind_inv hf
  refine ⟨ι, L, ρ, s, c, L1, h1, fun ι1 H1 le g1 => ?_⟩
  cases c with
  | true => exact ⟨ι1, L1, ρ, s.next le g1, k, L', hf, fun ι2 H2 le2 g2 => q ι2 H2 (le.trans le2) g2⟩
  | false => cases hf; exact q ι1 H1 le g1
theorem pw_o (ha : PDT X a ta) (hb : PDW X (.BoolOp .Or (b :: rest) pos) tb) : PDW X (.BoolOp .Or (a :: b :: rest) pos) (Cz.tOr ta tb) := (pw_or ha hb).cq fun σ H Q ⟨ι, L, ρ, s, k, L', hf, q⟩ => by
  obtain ⟨c, L1, h1, hf⟩ := bind_inv hf
  refine ⟨ι, L, ρ, s, c, L1, h1, fun ι1 H1 le g1 => ?_⟩
  cases c with
  | false => exact ⟨ι1, L1, ρ, s.next le g1, k, L', hf, fun ι2 H2 le2 g2 => q ι2 H2 (le.trans le2) g2⟩
  | true => cases hf; exact q ι1 H1 le g1
theorem pd_one {op} (ha : PD X a fa) : PD X (.BoolOp op [a] pos) fa := pe_one ha
theorem pd_and (ha : PD X a fa) (hb : PD X (.BoolOp .And (b :: rest) pos) fb) : PD X (.BoolOp .And (a :: b :: rest) pos) (eAnd fa fb) := (pe_and ha hb).cq fun σ H Q ⟨ι, L, ρ, s, k, L', hf, q⟩ => by
  obtain ⟨c, L1, h1, hf⟩ := bind_inv hf
  obtain ⟨d, L2, h2, h1⟩ := bind_inv h1
  cases d <;> first | (cases h1) | skip
  refine ⟨ι, L, ρ, s, _, _, h2, fun v ι1 H1 le g1 r => ⟨_, r.bl_inv, ?_⟩⟩
  cases c with
  | true => exact ⟨ι1, L1, ρ, s.next le g1, k, L', hf, fun v ι2 H2 le2 g2 r2 => q v ι2 H2 (le.trans le2) g2 r2⟩
  | false => cases hf; exact q _ ι1 H1 le g1 (.bl false)
theorem pd_or (ha : PD X a fa) (hb : PD X (.BoolOp .Or (b :: rest) pos) fb) : PD X (.BoolOp .Or (a :: b :: rest) pos) (eOr fa fb) := (pe_or ha hb).cq fun σ H Q ⟨ι, L, ρ, s, k, L', hf, q⟩ => by
  obtain ⟨c, L1, h1, hf⟩ := bind_inv hf
  obtain ⟨d, L2, h2, h1⟩ := bind_inv h1
  cases d <;> first | (cases h1) | skip
  refine ⟨ι, L, ρ, s, _, _, h2, fun v ι1 H1 le g1 r => ⟨_, r.bl_inv, ?_⟩⟩
  cases c with
  | false => exact ⟨ι1, L1, ρ, s.next le g1, k, L', hf, fun v ι2 H2 le2 g2 r2 => q v ι2 H2 (le.trans le2) g2 r2⟩
  | true => cases hf; exact q _ ι1 H1 le g1 (.bl true)
theorem pd_not (ha : PD X a fa) : PD X (.UnaryOp .Not a pos) (eNot fa) := (pe_not ha).cq fun σ H Q ⟨ι, L, ρ, s, k, L', hf, q⟩ => by
  obtain ⟨c, L1, h1, hf⟩ := bind_inv hf
  obtain ⟨d, L2, h2, h1⟩ := bind_inv h1
  cases d <;> first | (cases h1) | skip
  cases hf
  exact ⟨ι, L, ρ, s, _, _, h2, fun v ι1 H1 le g1 r => ⟨_, r.bl_inv, q _ ι1 H1 le g1 (.bl _)⟩⟩
theorem pd_if (hc : PDT X c tc) (ha : PD X a fa) (hb : PD X b fb) : PD X (.IfExp c a b pos) (eIf tc fa fb) := (pe_ifExp hc ha hb).cq fun σ H Q ⟨ι, L, ρ, s, k, L', hf, q⟩ => by
  obtain ⟨c, L1, h1, hf⟩ := bind_inv hf
  refine ⟨ι, L, ρ, s, c, L1, h1, fun ι1 H1 le g1 => ?_⟩
  cases c with
  | true => exact ⟨ι1, L1, ρ, s.next le g1, k, L', hf, fun v ι2 H2 le2 g2 r2 => q v ι2 H2 (le.trans le2) g2 r2⟩
  | false => exact ⟨ι1, L1, ρ, s.next le g1, k, L', hf, fun v ι2 H2 le2 g2 r2 => q v ι2 H2 (le.trans le2) g2 r2⟩
/-! ### argument lists, displays -/
variable {es : List Expr} {fs : List Ex}
theorem pda_nil : PDA X [] [] := pa_nil.cq fun σ H Q ⟨ι, L, ρ, s, k, L', hf, q⟩ => by
  cases hf; exact q [] ι H .refl s.g .nil
theorem pda_cons (ha : PD X a fa) (hr : PDA X es fs) (hs : starEach (a :: es) X.env = (false, eval a X.env) :: starEach es X.env := by rfl) : PDA X (a :: es) (fa :: fs) := (pa_cons ha hr hs).cq fun σ H Q ⟨ι, L, ρ, s, k, L', hf, q⟩ => by
  obtain ⟨d, L1, h1, hf⟩ := bind_inv hf
  obtain ⟨ds, L2, h2, hf⟩ := bind_inv hf
  cases hf
  refine ⟨ι, L, ρ, s, d, L1, h1, fun x ι1 H1 le1 g1 r1 => ⟨ι1, L1, ρ, s.next le1 g1, ds, _, h2, fun xs ι2 H2 le2 g2 r2 => q (x :: xs) ι2 H2 (le1.trans le2) g2 (.cons (r1.mono g1 le2) r2)⟩⟩
def eTup (es : List Ex) : Ex := fun ρ L => (eArgs es ρ L).bind fun ds L => if ds.length ≤ sz then .ok (.tup ds) L else .bad
/-- a list by value: never changed -/
def eLst (es : List Ex) : Ex := fun ρ L => (eArgs es ρ L).bind fun ds L => if ds.length ≤ sz then .ok (.lst ds) L else .bad
/-- a list that may be changed -/
def eNew (es : List Ex) : Ex := fun ρ L => (eArgs es ρ L).bind fun ds L => if ds.length ≤ sz then .ok (.ref L.length) (L ++ [some (.lst ds)]) else .bad
theorem if_inv {α : Type} {c : Prop} [Decidable c] {r : Res α} {d : α} {L : LH} (h : (if c then r else .bad) = .ok d L) : c ∧ r = .ok d L := by
  by_cases hc : c
  · rw [if_pos hc] at h; exact ⟨hc, h⟩
  · rw [if_neg hc] at h; cases h
section
variable {W : Wd} {ι : Io} {L : LH} {H : Hp} {p : Addr}
theorem Good.newTup (g : Good W ι L H) {vs : List V} {ds : List D} (r : RpA W ι (Lv ι L) H vs ds) (hp : H p = none) : Good W ι L (upd H p (.tup vs)) ∧ Le ι L H ι L (upd H p (.tup vs)) ∧ Rp W ι (Lv ι L) (upd H p (.tup vs)) (.ref p) (.tup ds) :=
  ⟨g.laid hp, .laid g hp, .tup (SqT.of upd_same) (r.mono g (.laid g hp))⟩
theorem Good.fresh (g : Good W ι L H) (hp : H p = none) : ¬ Lv ι L p := fun l => by
  rcases l with ⟨i, o, hi, _⟩ | hz
  · obtain ⟨w, hw⟩ := g.dom i p hi
    rw [hp] at hw; cases hw
  · exact g.zFresh hp hz
theorem Good.newLst (g : Good W ι L H) {vs : List V} {ds : List D} (r : RpA W ι (Lv ι L) H vs ds) (hp : H p = none) : Good W ι L (upd H p (.lst vs)) ∧ Le ι L H ι L (upd H p (.lst vs)) ∧ Rp W ι (Lv ι L) (upd H p (.lst vs)) (.ref p) (.lst ds) :=
  ⟨g.laid hp, .laid g hp, .lst upd_same (g.fresh hp) (r.mono g (.laid g hp))⟩
theorem Good.newDct (g : Good W ι L H) {kvs : List (Key × V)} {ks : List Key} {ds : List D} (hk : kvs.map (·.1) = ks) (r : RpA W ι (Lv ι L) H (kvs.map (·.2)) ds) (hp : H p = none) : Good W ι L (upd H p (.dK kvs)) ∧ Le ι L H ι L (upd H p (.dK kvs)) ∧ Rp W ι (Lv ι L) (upd H p (.dK kvs)) (.ref p) (.dct ks ds) :=
  ⟨g.laid hp, .laid g hp, .dct upd_same (g.fresh hp) hk (r.mono g (.laid g hp))⟩
theorem Good.trkLst (g : Good W ι L H) {vs : List V} {ds : List D} (r : RpA W ι (Lv ι L) H vs ds) (hp : H p = none) :
    Good W (ioPut ι L.length p) (L ++ [some (.lst ds)]) (upd H p (.lst vs)) ∧ Le ι L H (ioPut ι L.length p) (L ++ [some (.lst ds)]) (upd H p (.lst vs)) ∧ Rp W (ioPut ι L.length p) (Lv (ioPut ι L.length p) (L ++ [some (.lst ds)])) (upd H p (.lst vs)) (.ref p) (.ref L.length) :=
  ⟨g.made hp ⟨vs, upd_same, r.mono g (.made g hp)⟩, .made g hp, .ref ioPut_same⟩
theorem Good.trkDct (g : Good W ι L H) {kvs : List (Key × V)} {ks : List Key} {ds : List D} (hk : kvs.map (·.1) = ks) (r : RpA W ι (Lv ι L) H (kvs.map (·.2)) ds) (hp : H p = none) :
    Good W (ioPut ι L.length p) (L ++ [some (.dct ks ds)]) (upd H p (.dK kvs)) ∧ Le ι L H (ioPut ι L.length p) (L ++ [some (.dct ks ds)]) (upd H p (.dK kvs)) ∧ Rp W (ioPut ι L.length p) (Lv (ioPut ι L.length p) (L ++ [some (.dct ks ds)])) (upd H p (.dK kvs)) (.ref p) (.ref L.length) :=
  ⟨g.made hp ⟨kvs, upd_same, hk, r.mono g (.made g hp)⟩, .made g hp, .ref ioPut_same⟩
end
theorem pd_tup {x1} (h : PDA X es fs) : PD X (.Tuple es x1 pos) (eTup fs) := (pe_tup h).cq fun σ H Q ⟨ι, L, ρ, s, k, L', hf, q⟩ => by
  obtain ⟨ds, L1, h1, hf⟩ := bind_inv hf
  obtain ⟨hz, hf⟩ := if_inv hf
  cases hf
  refine ⟨ι, L, ρ, s, ds, _, h1, fun vs ι1 H1 le1 g1 r1 => ⟨by rw [r1.length]; exact hz, fun p hp => ?_⟩⟩
  obtain ⟨g2, le2, r2⟩ := g1.newTup r1 hp
  exact q _ ι1 _ (le1.trans le2) g2 r2
theorem pd_lst (h : PDA X es fs) : PD X (.List es pos) (eLst fs) := (pe_lst h).cq fun σ H Q ⟨ι, L, ρ, s, k, L', hf, q⟩ => by
  obtain ⟨ds, L1, h1, hf⟩ := bind_inv hf
  obtain ⟨hz, hf⟩ := if_inv hf
  cases hf
  refine ⟨ι, L, ρ, s, ds, _, h1, fun vs ι1 H1 le1 g1 r1 => ⟨by rw [r1.length]; exact hz, fun p hp => ?_⟩⟩
  obtain ⟨g2, le2, r2⟩ := g1.newLst r1 hp
  exact q _ ι1 _ (le1.trans le2) g2 r2
theorem pd_new (h : PDA X es fs) : PD X (.List es pos) (eNew fs) := (pe_lst h).cq fun σ H Q ⟨ι, L, ρ, s, k, L', hf, q⟩ => by
  obtain ⟨ds, L1, h1, hf⟩ := bind_inv hf
  obtain ⟨hz, hf⟩ := if_inv hf
  cases hf
  refine ⟨ι, L, ρ, s, ds, _, h1, fun vs ι1 H1 le1 g1 r1 => ⟨by rw [r1.length]; exact hz, fun p hp => ?_⟩⟩
  obtain ⟨g2, le2, r2⟩ := g1.trkLst r1 hp
  exact q _ _ _ (le1.trans le2) g2 r2
end
end Cz
set_option linter.all false
set_option autoImplicit false
set_option maxRecDepth 100000
/-! The data layer: operators and comparisons. -/
namespace Cz
open PySem L2
open PyProof.Rows (room_in_shaped)
section
variable {W : Wd} {ι : Io} {lv : Addr → Prop} {L : LH} {H : Hp} {v : V} {d : D}
/-! ### what a value is, read off its datum -/
theorem Good.seeL (g : Good W ι L H) (r : Rp W ι (Lv ι L) H v d) {xs : List D} (h : deref L d = .lst xs) : ∃ a vs, v = .ref a ∧ H a = some (.lst vs) ∧ RpA W ι (Lv ι L) H vs xs := by
  cases r with
  | lst e n q => unfold deref at h; cases h; exact ⟨_, _, rfl, e, q⟩
  | @ref a i e =>
    unfold deref at h
    cases hL : L[i]? with
    | none => simp only [hL] at h; cases h
    | some o => cases o with
      | none => simp only [hL] at h; cases h
      | some o => cases o with
        | lst ys =>
          simp only [hL] at h; cases h
          obtain ⟨b, hb, vs, hv, q⟩ := g.obj i _ hL
          rw [e] at hb; cases hb
          exact ⟨_, vs, rfl, hv, q⟩
        | dct ks ys => simp only [hL] at h; cases h
        | ins c fs => simp only [hL] at h; cases h
  | _ => unfold deref at h; cases h
theorem Good.seeD (g : Good W ι L H) (r : Rp W ι (Lv ι L) H v d) {ks : List Key} {xs : List D} (h : deref L d = .dct ks xs) : ∃ a kvs, v = .ref a ∧ H a = some (.dK kvs) ∧ kvs.map (·.1) = ks ∧ RpA W ι (Lv ι L) H (kvs.map (·.2)) xs := by
  cases r with
  | dct e n k q => unfold deref at h; cases h; exact ⟨_, _, rfl, e, k, q⟩
  | @ref a i e =>
    unfold deref at h
    cases hL : L[i]? with
    | none => simp only [hL] at h; cases h
    | some o => cases o with
      | none => simp only [hL] at h; cases h
      | some o => cases o with
        | dct ks ys =>
          simp only [hL] at h; cases h
          obtain ⟨b, hb, vs, hv, k, q⟩ := g.obj i _ hL
          rw [e] at hb; cases hb
          exact ⟨_, vs, rfl, hv, k, q⟩
        | lst ys => simp only [hL] at h; cases h
        | ins c fs => simp only [hL] at h; cases h
  | _ => unfold deref at h; cases h
theorem deref_ref {i : Nat} {d : D} (h : deref L (.ref i) = d) : (∃ xs, L[i]? = some (some (.lst xs)) ∧ d = .lst xs) ∨ (∃ ks xs, L[i]? = some (some (.dct ks xs)) ∧ d = .dct ks xs) ∨ d = .ref i := by
  unfold deref at h
  cases hL : L[i]? with
  | none => simp only [hL] at h; exact .inr (.inr h.symm)
  | some o => cases o with
    | none => simp only [hL] at h; exact .inr (.inr h.symm)
    | some o => cases o with
      | lst ys => simp only [hL] at h; exact .inl ⟨ys, rfl, h.symm⟩
      | dct ks ys => simp only [hL] at h; exact .inr (.inl ⟨ks, ys, rfl, h.symm⟩)
      | ins c fs => simp only [hL] at h; exact .inr (.inr h.symm)
theorem Rp.seeT (r : Rp W ι lv H v d) {xs : List D} (h : deref L d = .tup xs) : ∃ a vs, v = .ref a ∧ SqT W.K H a vs ∧ RpA W ι lv H vs xs := by
  cases r with
  | tup e q => unfold deref at h; cases h; exact ⟨_, _, rfl, e, q⟩
  | ref e => rcases deref_ref h with ⟨_, _, q⟩ | ⟨_, _, _, q⟩ | q <;> cases q
  | _ => unfold deref at h; cases h
theorem Rp.seeI (r : Rp W ι lv H v d) {i : Int} (h : deref L d = .int i) : v = .int i := by
  cases r with
  | int => unfold deref at h; cases h; rfl
  | ref e => rcases deref_ref h with ⟨_, _, q⟩ | ⟨_, _, _, q⟩ | q <;> cases q
  | _ => unfold deref at h; cases h
theorem Rp.seeS (r : Rp W ι lv H v d) {i : Str} (h : deref L d = .str i) : v = .str i := by
  cases r with
  | str => unfold deref at h; cases h; rfl
  | ref e => rcases deref_ref h with ⟨_, _, q⟩ | ⟨_, _, _, q⟩ | q <;> cases q
  | _ => unfold deref at h; cases h
theorem Rp.seeB (r : Rp W ι lv H v d) {i : Bool} (h : deref L d = .bl i) : v = .bl i := by
  cases r with
  | bl => unfold deref at h; cases h; rfl
  | ref e => rcases deref_ref h with ⟨_, _, q⟩ | ⟨_, _, _, q⟩ | q <;> cases q
  | _ => unfold deref at h; cases h
theorem Rp.seeN (r : Rp W ι lv H v d) (h : deref L d = .non) : v = .non := by
  cases r with
  | non => rfl
  | ref e => rcases deref_ref h with ⟨_, _, q⟩ | ⟨_, _, _, q⟩ | q <;> cases q
  | _ => unfold deref at h; cases h
theorem Rp.seeC (r : Rp W ι lv H v d) {xs : List Int} (h : deref L d = .scr xs) : ∃ a, v = .ref a ∧ ScrAt W.K H a (xs.map V.int) := by
  cases r with
  | scr e => unfold deref at h; cases h; exact ⟨_, rfl, e⟩
  | ref e => rcases deref_ref h with ⟨_, _, q⟩ | ⟨_, _, _, q⟩ | q <;> cases q
  | _ => unfold deref at h; cases h
/-! ### data of the library -/
mutual
theorem Rp.dp : ∀ {v : V} {d : D} {p : PyData}, Rp W ι lv H v d → toP d = some p → Dp W.K H v p
  | _, _, _, .non, h => by unfold toP at h; cases h; exact .non
  | _, _, _, .bl b, h => by unfold toP at h; cases h; exact .bl b
  | _, _, _, .int i, h => by unfold toP at h; cases h; exact .int i
  | _, _, _, .str x, h => by unfold toP at h; cases h; exact .str x
  | _, _, _, .ty n, h => by unfold toP at h; cases h
  | _, _, _, .tup e r, h => by
    unfold toP at h
    obtain ⟨ps, h1, h2⟩ := Option.map_eq_some_iff.mp h
    subst h2
    exact .tup e (RpA.dp r h1)
  | _, _, _, .lst e n r, h => by
    unfold toP at h
    obtain ⟨ps, h1, h2⟩ := Option.map_eq_some_iff.mp h
    subst h2
    exact .lst (SqL.of e) (RpA.dp r h1)
  | _, _, _, .dct _ _ _ _, h => by unfold toP at h; cases h
  | _, _, _, .scr _, h => by unfold toP at h; cases h
  | _, _, _, .ref _, h => by unfold toP at h; cases h
  | _, _, _, .fn _, h => by unfold toP at h; cases h
  | _, _, _, .exn _ _ _ _ _ _, h => by unfold toP at h; cases h
  | _, _, _, .exn0 _ _ _, h => by unfold toP at h; cases h
theorem RpA.dp : ∀ {vs : List V} {ds : List D} {ps : List PyData}, RpA W ι lv H vs ds → toPA ds = some ps → DpAll W.K H vs ps
  | _, _, _, .nil, h => by unfold toPA at h; cases h; exact .nil
  | _, _, _, .cons r q, h => by
    unfold toPA at h
    obtain ⟨p, h1, h⟩ := Option.bind_eq_some_iff.mp h
    obtain ⟨ps, h2, h⟩ := Option.map_eq_some_iff.mp h
    subst h
    exact .cons (r.dp h1) (q.dp h2)
end
theorem Good.dp (g : Good W ι L H) (r : Rp W ι (Lv ι L) H v d) {p : PyData} (h : toP (deref L d) = some p) : Dp W.K H v p := by
  cases e : deref L d with
  | lst xs =>
    rw [e] at h
    obtain ⟨a, vs, rfl, hv, q⟩ := g.seeL r e
    unfold toP at h
    obtain ⟨ps, h1, h2⟩ := Option.map_eq_some_iff.mp h
    subst h2
    exact .lst (SqL.of hv) (q.dp h1)
  | ref i => rw [e] at h; unfold toP at h; cases h
  | dct ks xs => rw [e] at h; unfold toP at h; cases h
  | tup xs =>
    rw [e] at h
    obtain ⟨a, vs, rfl, hv, q⟩ := r.seeT e
    unfold toP at h
    obtain ⟨ps, h1, h2⟩ := Option.map_eq_some_iff.mp h
    subst h2
    exact .tup hv (q.dp h1)
  | int i => rw [e] at h; unfold toP at h; cases h; rw [r.seeI e]; exact .int i
  | str i => rw [e] at h; unfold toP at h; cases h; rw [r.seeS e]; exact .str i
  | bl i => rw [e] at h; unfold toP at h; cases h; rw [r.seeB e]; exact .bl i
  | non => rw [e] at h; unfold toP at h; cases h; rw [r.seeN e]; exact .non
  | scr xs => rw [e] at h; unfold toP at h; cases h
  | ty n => rw [e] at h; unfold toP at h; cases h
  | fn f => rw [e] at h; unfold toP at h; cases h
  | exn c f x => rw [e] at h; unfold toP at h; cases h
  | exn0 c => rw [e] at h; unfold toP at h; cases h
end
/-! ### values told at once -/
section
variable {X : Cx} {a b e : Expr} {fa fb : Ex} {pos : Pos}
theorem Af.now {W : Wd} {ι : Io} {L : LH} {H : Hp} {d : D} {v : V} {Q : VK} (g : Good W ι L H) (k : Af W ι L H d L Q) (r : Rp W ι (Lv ι L) H v d) : Q v H := k v ι H .refl g r
theorem od_eq (hu : X.A.units + 64 < cLine) : OpD X (compareOp .Eq) eqD := (op_eqD hu).cq fun x y H Q ⟨ι, L, dx, dy, d, L', g, rx, ry, hf, k⟩ => by
  unfold eqD at hf
  cases h1 : toP (deref L dx) with
  | none => rw [h1] at hf; cases hf
  | some p => cases h2 : toP (deref L dy) with
    | none => rw [h1, h2] at hf; cases hf
    | some q =>
      rw [h1, h2] at hf
      obtain ⟨⟨s1, s2⟩, hf⟩ := if_inv hf
      cases hf
      exact ⟨p, q, g.dp rx h1, g.dp ry h2, s1, s2, k.now g (.bl _)⟩
theorem od_ne (hu : X.A.units + 64 < cLine) : OpD X (compareOp .NotEq) neD := (op_neD hu).cq fun x y H Q ⟨ι, L, dx, dy, d, L', g, rx, ry, hf, k⟩ => by
  unfold neD at hf
  cases h1 : toP (deref L dx) with
  | none => rw [h1] at hf; cases hf
  | some p => cases h2 : toP (deref L dy) with
    | none => rw [h1, h2] at hf; cases hf
    | some q =>
      rw [h1, h2] at hf
      obtain ⟨⟨s1, s2⟩, hf⟩ := if_inv hf
      cases hf
      exact ⟨p, q, g.dp rx h1, g.dp ry h2, s1, s2, k.now g (.bl _)⟩
theorem intOp_inv {g : Int → Int → D} {x y d : D} {L L' : LH} (h : intOp g x y L = .ok d L') : ∃ i j, x = .int i ∧ y = .int j ∧ d = g i j ∧ L' = L := by
  unfold intOp at h
  split at h
  · cases h; exact ⟨_, _, rfl, rfl, rfl, rfl⟩
  · cases h
theorem od_int {f : Value → Value → Sem Value} {gv : Int → Int → V} {gd : Int → Int → D} (h : OpR X f (rI0 gv)) (k : ∀ i j ι lv H, Rp X.wd ι lv H (gv i j) (gd i j)) : OpD X f (intOp gd) := h.cq fun x y H Q ⟨ι, L, dx, dy, d, L', g, rx, ry, hf, q⟩ => by
  obtain ⟨i, j, rfl, rfl, rfl, rfl⟩ := intOp_inv hf
  exact ⟨i, j, rx.int_inv, ry.int_inv, q.now g (k _ _ _ _ _)⟩
theorem od_sub : OpD X (binaryOp .Sub) (intOp fun i j => .int (i - j)) := od_int op_sub fun _ _ _ _ _ => .int _
theorem od_le : OpD X (compareOp .LtE) (intOp fun i j => .bl (decide (i ≤ j))) := od_int op_le fun _ _ _ _ _ => .bl _
theorem od_gt : OpD X (compareOp .Gt) (intOp fun i j => .bl (decide (j < i))) := od_int op_gt fun _ _ _ _ _ => .bl _
theorem od_ge : OpD X (compareOp .GtE) (intOp fun i j => .bl (decide (j ≤ i))) := od_int op_ge fun _ _ _ _ _ => .bl _
theorem od_lt : OpD X (compareOp .Lt) ltD := (op_lt.or op_lt_str).cq fun x y H Q ⟨ι, L, dx, dy, d, L', g, rx, ry, hf, q⟩ => by
  unfold ltD at hf
  split at hf
  · cases hf; exact .inl ⟨_, _, rx.int_inv, ry.int_inv, q.now g (.bl _)⟩
  · cases hf; exact .inr ⟨_, _, rx.str_inv, ry.str_inv, q.now g (.bl _)⟩
  · cases hf
theorem od_mod : OpD X (binaryOp .Mod) modD := op_mod.cq fun x y H Q ⟨ι, L, dx, dy, d, L', g, rx, ry, hf, q⟩ => by
  unfold modD at hf
  split at hf
  · obtain ⟨h0, hf⟩ := if_inv hf
    cases hf; exact ⟨_, _, rx.int_inv, ry.int_inv, h0, q.now g (.int _)⟩
  · cases hf
theorem od_div : OpD X (binaryOp .FloorDiv) divD := op_fdiv.cq fun x y H Q ⟨ι, L, dx, dy, d, L', g, rx, ry, hf, q⟩ => by
  unfold divD at hf
  split at hf
  · obtain ⟨h0, hf⟩ := if_inv hf
    cases hf; exact ⟨_, _, rx.int_inv, ry.int_inv, h0, q.now g (.int _)⟩
  · cases hf
def powD (x y : D) (L : LH) : Res D := match x, y with
  | .int i, .int j => if 0 ≤ j ∧ j ≤ 1000000 ∧ i.natAbs < 2 ^ 64 then .ok (.int (i ^ j.toNat)) L else .bad
  | _, _ => .bad
theorem od_pow : OpD X (binaryOp .Pow) powD := op_pow.cq fun x y H Q ⟨ι, L, dx, dy, d, L', g, rx, ry, hf, q⟩ => by
  unfold powD at hf
  split at hf
  · obtain ⟨h0, hf⟩ := if_inv hf
    cases hf; exact ⟨_, _, rx.int_inv, ry.int_inv, h0, q.now g (.int _)⟩
  · cases hf
theorem od_add : OpD X (binaryOp .Add) addD := (op_add.or (op_add_str.or (op_cat.or op_catT))).cq fun x y H Q ⟨ι, L, dx, dy, d, L', g, rx, ry, hf, q⟩ => by
  unfold addD at hf
  split at hf
  · rename_i h1 h2; cases hf; exact .inl ⟨_, _, rx.seeI h1, ry.seeI h2, q.now g (.int _)⟩
  · rename_i h1 h2
    obtain ⟨h0, hf⟩ := if_inv hf
    cases hf; exact .inr (.inl ⟨_, _, rx.seeS h1, ry.seeS h2, h0, q.now g (.str _)⟩)
  · rename_i h1 h2
    obtain ⟨h0, hf⟩ := if_inv hf
    cases hf
    obtain ⟨a, vs, rfl, ha, ra⟩ := g.seeL rx h1
    obtain ⟨b, ws, rfl, hb, rb⟩ := g.seeL ry h2
    refine .inr (.inr (.inl ⟨a, b, vs, ws, rfl, rfl, ha, hb, by rw [ra.length, rb.length]; exact h0, fun p hp => ?_⟩))
    obtain ⟨g2, le2, r2⟩ := g.newLst (ra.append rb) hp
    exact q _ ι _ le2 g2 r2
  · rename_i h1 h2
    obtain ⟨⟨hn, h0⟩, hf⟩ := if_inv hf
    cases hf
    obtain ⟨a, vs, rfl, ha, ra⟩ := rx.seeT h1
    obtain ⟨b, ws, rfl, hb, rb⟩ := ry.seeT h2
    refine .inr (.inr (.inr ⟨a, b, vs, ws, rfl, rfl, ha, hb, ?_, by rw [ra.length, rb.length]; exact h0, fun e => ?_, fun _ p hp => ?_⟩))
    · rintro rfl; cases ra; exact hn rfl
    · subst e; cases rb; exact q.now g (by simpa using Rp.tup ha ra)
    · obtain ⟨g2, le2, r2⟩ := g.newTup (ra.append rb) hp
      exact q _ ι _ le2 g2 r2
  · cases hf
theorem od_mul : OpD X (binaryOp .Mult) mulD := (op_mul.or op_rep).cq fun x y H Q ⟨ι, L, dx, dy, d, L', g, rx, ry, hf, q⟩ => by
  unfold mulD at hf
  split at hf
  · rename_i h1
    obtain ⟨h0, hf⟩ := if_inv hf
    cases hf; exact .inl ⟨_, _, rx.seeI h1, ry.int_inv, h0, q.now g (.int _)⟩
  · rename_i h1
    obtain ⟨⟨h0, h2, h3⟩, hf⟩ := if_inv hf
    cases hf
    obtain ⟨a, vs, rfl, ha, ra⟩ := g.seeL rx h1
    refine .inr ⟨a, _, vs, rfl, ry.int_inv, ha, h0, h2, by rw [ra.length]; exact h3, fun p hp => ?_⟩
    obtain ⟨g2, le2, r2⟩ := g.newLst (ra.rep _) hp
    exact q _ ι _ le2 g2 r2
  · cases hf
/-! ### in, not in -/
def oneSign : D → Option Nat
  | .str ⟨⟨[c]⟩⟩ => some c
  | _ => none
def inB (x y : D) (L : LH) : Option Bool := match deref L y with
  | .dct ks _ => (keyOf x).map fun k => ks.any fun j => decide (j = k)
  | .tup ys => match toP (deref L x), toPA ys with
    | some p, some ps => if SeqAt.shaped p = true ∧ SeqAt.shaped (.tuple ps) = true then some (ps.any fun z => PyData.eqv z p) else none
    | _, _ => none
  | .lst ys => match toP (deref L x), toPA ys with
    | some p, some ps => if SeqAt.shaped p = true ∧ SeqAt.shaped (.list ps) = true then some (ps.any fun z => PyData.eqv z p) else none
    | _, _ => none
  | .str z => (oneSign x).map fun c => decide (c ∈ z.cps.toList)
  | _ => none
def inD (x y : D) (L : LH) : Res D := match inB x y L with
  | some k => .ok (.bl k) L
  | none => .bad
def niD (x y : D) (L : LH) : Res D := match inB x y L with
  | some k => .ok (.bl (!k)) L
  | none => .bad
theorem valV_any' (k : Key) (kvs : List (Key × V)) : (valV kvs k).isSome = (kvs.map (·.1)).any fun j => decide (j = k) := by
  rw [← valV_any, List.any_map]; rfl
theorem keyOf_kV {W : Wd} {ι : Io} {lv : Addr → Prop} {H : Hp} {v : V} {d : D} {k : Key} (r : Rp W ι lv H v d) (h : keyOf d = some k) : v = kV k := by
  cases d <;> first | (cases h; done) | skip
  · cases h; rw [r.int_inv]; rfl
  · cases h; rw [r.str_inv]; rfl
theorem oneSign_inv {W : Wd} {ι : Io} {lv : Addr → Prop} {H : Hp} {v : V} {d : D} {c : Nat} (r : Rp W ι lv H v d) (h : oneSign d = some c) : v = .str ⟨#[c]⟩ := by
  unfold oneSign at h
  split at h
  · cases h; exact r.str_inv
  · cases h
theorem in_room {X : Cx} (hu : X.A.units + 65 < cLine) : X.A.units + 1 < cLine := by omega
theorem od_inG {X : Cx} {neg : Bool} {op : CmpOp} (hu : X.A.units + 65 < cLine)
    (hd : ∀ (pins : List (Addr × Obj)) (s : Shared) (σ : St) (H : Hp) (a : Addr) (y : V) (u : Value) (o : Option V) (Q : VK), Inv X pins σ H s → DGet H a y o → RelV y u → Q (.bl (o.isSome != neg)) H → wpAny (model X.prog X.w) X.A (compareOp op u (.ref a)) (EP X pins σ Q) X.xe s)
    (ht : ∀ (s : Shared) (c x : Value) (xs : List PyData) (d : PyData) (as bs : List Addr) (Q : Value → Shared → Prop), Reads s.heap c (.tuple xs) as → Reads s.heap x d bs → PyData.canLay0 (.tuple xs) = true → d.canLay0 = true → X.A.units + 1 + min (PyData.depthAll xs) d.depth < cLine → Q (.bool ((xs.any fun z => PyData.eqv z d) != neg)) s → wpAny (model X.prog X.w) X.A (compareOp op x c) Q X.xe s)
    (hl : ∀ (s : Shared) (c x : Value) (xs : List PyData) (d : PyData) (as bs : List Addr) (Q : Value → Shared → Prop), Reads s.heap c (.list xs) as → Reads s.heap x d bs → PyData.canLay0 (.list xs) = true → d.canLay0 = true → X.A.units + 1 + min (PyData.depthAll xs) d.depth < cLine → Q (.bool ((xs.any fun z => PyData.eqv z d) != neg)) s → wpAny (model X.prog X.w) X.A (compareOp op x c) Q X.xe s)
    (hs : OpR X (compareOp op) (fun x y H Q => ∃ (c : Nat) (z : Str), x = .str ⟨#[c]⟩ ∧ y = .str z ∧ Q (.bl ((decide (c ∈ z.cps.toList)) != neg)) H)) :
    OpD X (compareOp op) (fun x y L => match inB x y L with
      | some k => .ok (.bl (k != neg)) L
      | none => .bad) := by
  intro pins s σ H x y v u Q I rx ry ⟨ι, L, dx, dy, d, L', g, qx, qy, hf, q⟩
  cases hb : inB dx dy L with
  | none => simp only [hb] at hf; cases hf
  | some k =>
    simp only [hb] at hf
    cases hf
    unfold inB at hb
    cases e : deref L dy with
    | dct ks xs =>
      simp only [e] at hb
      obtain ⟨key, hk, hb⟩ := Option.map_eq_some_iff.mp hb
      obtain ⟨a, kvs, rfl, ha, hks, ra⟩ := g.seeD qy e
      obtain rfl := keyOf_kV qx hk
      obtain rfl : u = .ref a := ry
      refine hd pins s σ H a (kV key) v _ Q I (DGet.k ha) rx ?_
      rw [valV_any', hks, hb]
      exact q.now g (.bl _)
    | tup ys =>
      simp only [e] at hb
      cases h1 : toP (deref L dx) with
      | none => simp only [h1] at hb; cases hb
      | some p => cases h2 : toPA ys with
        | none => simp only [h1, h2] at hb; cases hb
        | some ps =>
          simp only [h1, h2] at hb
          by_cases c : SeqAt.shaped p = true ∧ SeqAt.shaped (.tuple ps) = true
          · rw [if_pos c] at hb
            cases hb
            obtain ⟨as, r1⟩ := Dp.reads I p x v (g.dp qx h1) rx
            have h3 : toP (deref L dy) = some (.tuple ps) := by rw [e]; unfold toP; rw [h2]; rfl
            obtain ⟨bs, r2⟩ := Dp.reads I (.tuple ps) y u (g.dp qy h3) ry
            exact ht s u v ps p bs as _ r2 r1 (SeqAt.canLay_of_shaped c.2) (SeqAt.canLay_of_shaped c.1) (room_in_shaped c.1 hu) ⟨.bl _, H, I, rfl, q.now g (.bl _)⟩
          · rw [if_neg c] at hb; cases hb
    | lst ys =>
      simp only [e] at hb
      cases h1 : toP (deref L dx) with
      | none => simp only [h1] at hb; cases hb
      | some p => cases h2 : toPA ys with
        | none => simp only [h1, h2] at hb; cases hb
        | some ps =>
          simp only [h1, h2] at hb
          by_cases c : SeqAt.shaped p = true ∧ SeqAt.shaped (.list ps) = true
          · rw [if_pos c] at hb
            cases hb
            obtain ⟨as, r1⟩ := Dp.reads I p x v (g.dp qx h1) rx
            have h3 : toP (deref L dy) = some (.list ps) := by rw [e]; unfold toP; rw [h2]; rfl
            obtain ⟨bs, r2⟩ := Dp.reads I (.list ps) y u (g.dp qy h3) ry
            exact hl s u v ps p bs as _ r2 r1 (SeqAt.canLay_of_shaped c.2) (SeqAt.canLay_of_shaped c.1) (room_in_shaped c.1 hu) ⟨.bl _, H, I, rfl, q.now g (.bl _)⟩
          · rw [if_neg c] at hb; cases hb
    | str z =>
      simp only [e] at hb
      obtain ⟨c, hc, hb⟩ := Option.map_eq_some_iff.mp hb
      cases hb
      exact hs pins s σ H x y v u Q I rx ry ⟨c, z, oneSign_inv qx hc, qy.seeS e, q.now g (.bl _)⟩
    | _ => simp only [e] at hb; cases hb
theorem od_in (hu : X.A.units + 65 < cLine) : OpD X (compareOp .In) inD := by
  have h := od_inG (X := X) (neg := false) (op := .In) hu
    (fun pins s σ H a y u o Q I dg r q => d_in (in_room hu) I dg r fun s' I' => ⟨.bl _, H, I', rfl, by simpa using q⟩)
    (fun s c x xs d as bs Q rc rx h1 h2 hr q => SeqAt.in_tuple_reads rc rx h1 h2 hr (by simpa using q))
    (fun s c x xs d as bs Q rc rx h1 h2 hr q => SeqAt.in_list_reads rc rx h1 h2 hr (by simpa using q))
    (op_in_sign.cq fun x y H Q ⟨c, z, h1, h2, q⟩ => ⟨c, z, h1, h2, by simpa using q⟩)
  refine h.cq fun x y H Q ⟨ι, L, dx, dy, d, L', g, rx, ry, hf, q⟩ => ⟨ι, L, dx, dy, d, L', g, rx, ry, ?_, q⟩
  unfold inD at hf
  show (match inB dx dy L with | some k => Res.ok (D.bl (k != false)) L | none => Res.bad) = _
  revert hf
  cases inB dx dy L <;> simp
theorem od_ni (hu : X.A.units + 65 < cLine) : OpD X (compareOp .NotIn) niD := by
  have h := od_inG (X := X) (neg := true) (op := .NotIn) hu
    (fun pins s σ H a y u o Q I dg r q => d_notIn (in_room hu) I dg r fun s' I' => ⟨.bl _, H, I', rfl, by simpa using q⟩)
    (fun s c x xs d as bs Q rc rx h1 h2 hr q => SeqAt.notIn_tuple_reads rc rx h1 h2 hr (by simpa using q))
    (fun s c x xs d as bs Q rc rx h1 h2 hr q => SeqAt.notIn_list_reads rc rx h1 h2 hr (by simpa using q))
    (op_notIn_sign.cq fun x y H Q ⟨c, z, h1, h2, q⟩ => ⟨c, z, h1, h2, by simpa using q⟩)
  refine h.cq fun x y H Q ⟨ι, L, dx, dy, d, L', g, rx, ry, hf, q⟩ => ⟨ι, L, dx, dy, d, L', g, rx, ry, ?_, q⟩
  unfold niD at hf
  show (match inB dx dy L with | some k => Res.ok (D.bl (k != true)) L | none => Res.bad) = _
  revert hf
  cases inB dx dy L <;> simp
/-! ### a < b < c; is None -/
def eChain (g h : D → D → LH → Res D) (a b c : Ex) : Ex := fun ρ L => (a ρ L).bind fun x L => (b ρ L).bind fun y L => (g x y L).bind fun r L => (bOf r L).bind fun k L =>
  if k = true then (c ρ L).bind fun z L => h y z L else .ok (.bl false) L
theorem pd_chain {c : Expr} {fc : Ex} {op op' : CmpOp} {g h : D → D → LH → Res D} (ho : OpD X (compareOp op) g) (ho' : OpD X (compareOp op') h) (ha : PD X a fa) (hb : PD X b fb) (hc : PD X c fc)
    (hm : lastMarks [op, op'] [b, c] = false := by with_unfolding_all rfl) : PD X (.Compare a [op, op'] [b, c] pos) (eChain g h fa fb fc) := (pe_chain ho ho' ha hb hc hm).cq fun σ H Q ⟨ι, L, ρ, s, d, L', hf, q⟩ => by
  obtain ⟨dx, L1, h1, hf⟩ := bind_inv hf
  obtain ⟨dy, L2, h2, hf⟩ := bind_inv hf
  obtain ⟨dz, L3, h3, hf⟩ := bind_inv hf
  obtain ⟨k, L4, h4, hf⟩ := bind_inv hf
  refine ⟨ι, L, ρ, s, dx, L1, h1, fun x ι1 H1 le1 g1 r1 => ⟨ι1, L1, ρ, s.next le1 g1, dy, L2, h2, fun y ι2 H2 le2 g2 r2 => ?_⟩⟩
  refine ⟨ι2, L2, dx, dy, dz, L3, g2, r1.mono g1 le2, r2, h3, fun z ι3 H3 le3 g3 r3 => ?_⟩
  cases dz <;> first | (cases h4) | skip
  rw [r3.bl_inv]
  refine ⟨_, rfl, ?_⟩
  split at hf
  · rename_i hk
    rw [if_pos hk]
    obtain ⟨dw, L5, h5, hf⟩ := bind_inv hf
    refine ⟨ι3, _, ρ, ((s.next le1 g1).next le2 g2).next le3 g3, dw, L5, h5, fun w ι5 H5 le5 g5 r5 => ?_⟩
    exact ⟨ι5, L5, dy, dw, d, L', g5, (r2.mono g2 le3).mono g3 le5, r5, hf, fun v ι6 H6 le6 g6 r6 => q v ι6 H6 ((((le1.trans le2).trans le3).trans le5).trans le6) g6 r6⟩
  · rename_i hk
    rw [if_neg hk]
    cases hf
    exact q _ ι3 H3 ((le1.trans le2).trans le3) g3 (.bl _)
def isN (x y : D) (L : LH) : Res D := match x, y with
  | .non, .non => .ok (.bl true) L
  | .ref i, .non => .ok (.bl false) L
  | .int i, .non => .ok (.bl false) L
  | .str i, .non => .ok (.bl false) L
  | .bl i, .non => .ok (.bl false) L
  | .tup i, .non => .ok (.bl false) L
  | .lst i, .non => .ok (.bl false) L
  | .exn _ _ _, .non => .ok (.bl false) L
  | .exn0 _, .non => .ok (.bl false) L
  | _, _ => .bad
def isNN (x y : D) (L : LH) : Res D := (isN x y L).bind fun r L => (bOf r L).bind fun k L => .ok (.bl (!k)) L
theorem Rp.non_inv {W : Wd} {ι : Io} {lv : Addr → Prop} {H : Hp} {v : V} (r : Rp W ι lv H v .non) : v = .non := by cases r; rfl
theorem od_is : OpD X (compareOp .Is) isN := op_isN.cq fun x y H Q ⟨ι, L, dx, dy, d, L', g, rx, ry, hf, q⟩ => by
  unfold isN at hf
  split at hf <;> first
    | (cases hf; refine ⟨ry.non_inv, ?_⟩; cases rx; exact q.now g (.bl _))
    | (cases hf)
theorem od_isnot : OpD X (compareOp .IsNot) isNN := op_notN.cq fun x y H Q ⟨ι, L, dx, dy, d, L', g, rx, ry, hf, q⟩ => by
  unfold isNN at hf
  obtain ⟨r, L1, h1, hf⟩ := bind_inv hf
  obtain ⟨k, L2, h2, hf⟩ := bind_inv hf
  cases hf
  unfold isN at h1
  split at h1 <;> first
    | (cases h1; cases h2; refine ⟨ry.non_inv, ?_⟩; cases rx; exact q.now g (.bl _))
    | (cases h1)
end
end Cz
set_option linter.all false
set_option autoImplicit false
set_option maxRecDepth 100000
/-! The data layer: statements, targets, loops, list comprehensions, calls of defs and methods. -/
namespace Cz
open PySem L2
/-- what is wanted behind a statement that came to r -/
def Po (W : Wd) (ι : Io) (L : LH) (H : Hp) (σ : L2.St) (r : Fl × Rho) (L' : LH) (D : Ends) : Prop := match r with
  | (.nx, ρ') => ∀ σ' ι' H', σ'.length = σ.length → Le ι L H ι' L' H' → Sa W ι' L' H' σ' ρ' → D.nx σ' H'
  | (.bk, ρ') => ∀ σ' ι' H', σ'.length = σ.length → Le ι L H ι' L' H' → Sa W ι' L' H' σ' ρ' → D.bk σ' H'
  | (.ct, ρ') => ∀ σ' ι' H', σ'.length = σ.length → Le ι L H ι' L' H' → Sa W ι' L' H' σ' ρ' → D.ct σ' H'
  | (.rt d, _) => Af W ι L H d L' D.rt
def wS (W : Wd) (f : Sm) : TS := fun D σ H => ∃ ι L ρ, Sa W ι L H σ ρ ∧ ∃ r L', f ρ L = .ok r L' ∧ Po W ι L H σ r L' D
abbrev PDS (X : Cx) (st : Stmt) (f : Sm) : Prop := PS X st (wS X.wd f)
abbrev PDSs (X : Cx) (st : List Stmt) (f : Sm) : Prop := PSs X st (wS X.wd f)
theorem Af.after {W : Wd} {ι ι1 : Io} {L L1 L' : LH} {H H1 : Hp} {d : D} {Q : VK} (le : Le ι L H ι1 L1 H1) (k : Af W ι L H d L' Q) : Af W ι1 L1 H1 d L' Q := fun v ι' H' l g r => k v ι' H' (le.trans l) g r
theorem Po.after {W : Wd} {ι ι1 : Io} {L L1 L' : LH} {H H1 : Hp} {σ σ1 : L2.St} {r : Fl × Rho} {D : Ends} (hl : σ1.length = σ.length) (le : Le ι L H ι1 L1 H1) (k : Po W ι L H σ r L' D) : Po W ι1 L1 H1 σ1 r L' D := by
  obtain ⟨f, ρ⟩ := r
  cases f with
  | nx => exact fun σ' ι' H' e l s => k σ' ι' H' (e.trans hl) (le.trans l) s
  | bk => exact fun σ' ι' H' e l s => k σ' ι' H' (e.trans hl) (le.trans l) s
  | ct => exact fun σ' ι' H' e l s => k σ' ι' H' (e.trans hl) (le.trans l) s
  | rt d => exact Af.after le k
section
variable {X : Cx} {st : Stmt} {rest : List Stmt} {e a b c : Expr} {fe fa fb : Ex} {f g : Sm} {t : Te} {pos : Pos}
theorem pds_nil : PDSs X [] sNil := pss_nil.cq fun D σ H ⟨ι, L, ρ, s, r, L', hf, k⟩ => by
  cases hf; exact k σ ι H rfl .refl s
theorem pds_cons (h1 : PDS X st f) (h2 : PDSs X rest g) : PDSs X (st :: rest) (sSeq f g) := (pss_cons h1 h2).cq fun D σ H ⟨ι, L, ρ, s, r, L', hf, k⟩ => by
  obtain ⟨⟨fl, ρ1⟩, L1, h1, hf⟩ := bind_inv hf
  refine ⟨ι, L, ρ, s, (fl, ρ1), L1, h1, ?_⟩
  cases fl with
  | nx => exact fun σ1 ι1 H1 e1 le1 s1 => ⟨ι1, L1, ρ1, s1, r, L', hf, k.after e1 le1⟩
  | bk => cases hf; exact k
  | ct => cases hf; exact k
  | rt d => cases hf; exact k
theorem pds_one (h1 : PDS X st f) : PDSs X [st] f := pss_one h1
theorem pds_expr (he : PD X e fe) (hs : swapsWith e none pos.line X.env = pure false := by rfl) : PDS X (.Expr e pos) (sDrop fe) := (ps_expr he hs).cq fun D σ H ⟨ι, L, ρ, s, r, L', hf, k⟩ => by
  obtain ⟨d, L1, h1, hf⟩ := bind_inv hf
  cases hf
  exact ⟨ι, L, ρ, s, d, _, h1, fun v ι1 H1 le1 g1 r1 => k σ ι1 H1 rfl le1 (s.next le1 g1)⟩
theorem pds_ret (he : PD X e fe) : PDS X (.Return (some e) pos) (sRet fe) := (ps_ret he).cq fun D σ H ⟨ι, L, ρ, s, r, L', hf, k⟩ => by
  obtain ⟨d, L1, h1, hf⟩ := bind_inv hf
  cases hf
  exact ⟨ι, L, ρ, s, d, _, h1, k⟩
theorem pds_retN : PDS X (.Return none pos) sRetN := ps_retN.cq fun D σ H ⟨ι, L, ρ, s, r, L', hf, k⟩ => by
  cases hf
  exact k.now s.g .non
theorem pds_if {xs ys : List Stmt} (hc : PDT X c t) (ha : PDSs X xs f) (hb : PDSs X ys g) : PDS X (.If c xs ys pos) (sIf t f g) := (ps_if hc ha hb).cq fun D σ H ⟨ι, L, ρ, s, r, L', hf, k⟩ => by
  obtain ⟨q, L1, h1, hf⟩ := bind_inv hf
  refine ⟨ι, L, ρ, s, q, L1, h1, fun ι1 H1 le1 g1 => ?_⟩
  cases q with
  | true => exact ⟨ι1, L1, ρ, s.next le1 g1, r, L', hf, k.after rfl le1⟩
  | false => exact ⟨ι1, L1, ρ, s.next le1 g1, r, L', hf, k.after rfl le1⟩
theorem pds_break : PDS X (.Break pos) sBk := ps_break.cq fun D σ H ⟨ι, L, ρ, s, r, L', hf, k⟩ => by
  cases hf; exact k σ ι H rfl .refl s
theorem pds_continue : PDS X (.Continue pos) sCt := ps_continue.cq fun D σ H ⟨ι, L, ρ, s, r, L', hf, k⟩ => by
  cases hf; exact k σ ι H rfl .refl s
theorem pds_pass : PDS X (.Pass pos) sNil := ps_pass.cq fun D σ H ⟨ι, L, ρ, s, r, L', hf, k⟩ => by
  cases hf; exact k σ ι H rfl .refl s
/-- what is never come to -/
def sBad : Sm := fun _ _ => .bad
theorem pds_never : PDS X st sBad := ps_never.cq fun D σ H ⟨ι, L, ρ, s, r, L', hf, k⟩ => by cases hf
end
/-! ### targets -/
def wG (W : Wd) (t : Tg) : TG := fun v σ H Q => ∃ ι L ρ d, Sa W ι L H σ ρ ∧ Rp W ι (Lv ι L) H v d ∧ ∃ ρ' L', t.put d ρ L = .ok ρ' L' ∧
  ∀ σ' ι' H', σ'.length = σ.length → Le ι L H ι' L' H' → Sa W ι' L' H' σ' ρ' → (∀ vs : List Nat, (∀ i ∈ t.slots, i ∈ vs) → L2.wipe σ' vs = L2.wipe σ vs) → Q σ' H'
def wGs (W : Wd) (ts : List Tg) : TGs := fun vs σ H Q => ∃ ι L ρ ds, Sa W ι L H σ ρ ∧ RpA W ι (Lv ι L) H vs ds ∧ ∃ ρ' L', putA ts ds ρ L = .ok ρ' L' ∧
  ∀ σ' ι' H', σ'.length = σ.length → Le ι L H ι' L' H' → Sa W ι' L' H' σ' ρ' → (∀ vs : List Nat, (∀ i ∈ slotsA ts, i ∈ vs) → L2.wipe σ' vs = L2.wipe σ vs) → Q σ' H'
abbrev PDG (X : Cx) (e : Expr) (t : Tg) : Prop := PG X e (wG X.wd t)
abbrev PDGs (X : Cx) (es : List Expr) (ts : List Tg) : Prop := PGs X es (wGs X.wd ts)
theorem _root_.L2.PG.cq {X : Cx} {e : Expr} {t t' : TG} (h : PG X e t) (k : ∀ v σ H Q, t' v σ H Q → t v σ H Q) : PG X e t' := ⟨fun pins s σ H v u Q I r q => h.run pins s σ H v u Q I r (k v σ H Q q)⟩
theorem _root_.L2.PGs.cq {X : Cx} {es : List Expr} {t t' : TGs} (h : PGs X es t) (k : ∀ v σ H Q, t' v σ H Q → t v σ H Q) : PGs X es t' := ⟨fun pins s σ H v u Q I r q => h.run pins s σ H v u Q I r (k v σ H Q q)⟩
theorem wipe_set {σ : L2.St} {i : Nat} {o : Option V} : ∀ {vs : List Nat}, i ∈ vs → L2.wipe (σ.set i o) vs = L2.wipe σ vs
  | [], h => by simp at h
  | v :: vs, h => by
    show (L2.wipe (σ.set i o) vs).set v none = (L2.wipe σ vs).set v none
    by_cases e : i ∈ vs
    · rw [wipe_set e]
    · have hv : i = v := by
        rcases List.mem_cons.mp h with h | h
        · exact h
        · exact absurd h e
      subst hv
      have key : ∀ {us : List Nat}, i ∉ us → L2.wipe (σ.set i o) us = (L2.wipe σ us).set i o := by
        intro us
        induction us with
        | nil => intro _; rfl
        | cons u us ih =>
          intro hu
          have h1 : i ≠ u := fun q => hu (q ▸ List.mem_cons_self ..)
          have h2 : i ∉ us := fun q => hu (List.mem_cons_of_mem _ q)
          show (L2.wipe (σ.set i o) us).set u none = ((L2.wipe σ us).set u none).set i o
          rw [ih h2, List.set_comm _ _ h1]
      rw [key e, List.set_set]
section
variable {X : Cx} {e : Expr} {es : List Expr} {t : Tg} {ts : List Tg} {pos : Pos}
theorem pdg_name {i : Nat} {x : Str} (h : PG X (.Name x pos) (gName i)) : PDG X (.Name x pos) (.nm i) := h.cq fun v σ H Q ⟨ι, L, ρ, d, s, r, ρ', L', hp, k⟩ => by
  simp only [Tg.put] at hp
  cases hp
  exact k _ ι H (by simp) .refl ⟨s.g, s.s.set r i⟩ fun vs hv => wipe_set (hv i (by simp [Tg.slots]))
theorem pdgs_nil : PDGs X [] [] := pgs_nil.cq fun v σ H Q ⟨ι, L, ρ, d, s, r, ρ', L', hp, k⟩ => by
  cases r with
  | nil => simp only [putA] at hp; cases hp; exact ⟨rfl, k σ ι H rfl .refl s fun _ _ => rfl⟩
  | cons _ _ => simp only [putA] at hp; cases hp
theorem pdgs_cons (h1 : PDG X e t) (h2 : PDGs X es ts) (hs : (assignEach (e :: es) X.env).map (·.2) = assign e X.env :: (assignEach es X.env).map (·.2) := by rfl) : PDGs X (e :: es) (t :: ts) := (pgs_cons h1 h2 hs).cq fun v σ H Q ⟨ι, L, ρ, d, s, r, ρ', L', hp, k⟩ => by
  cases r with
  | nil => simp only [putA] at hp; cases hp
  | cons r rs =>
    simp only [putA] at hp
    obtain ⟨ρ1, L1, hp1, hp⟩ := bind_inv hp
    refine ⟨_, _, rfl, ι, L, ρ, _, s, r, ρ1, L1, hp1, fun σ1 ι1 H1 l1 le1 s1 w1 => ⟨ι1, L1, ρ1, _, s1, rs.mono s.g le1, ρ', L', hp, fun σ2 ι2 H2 l2 le2 s2 w2 => ?_⟩⟩
    refine k σ2 ι2 H2 (l2.trans l1) (le1.trans le2) s2 fun vs hv => ?_
    rw [w2 vs fun i hi => hv i (by simp [slotsA, hi]), w1 vs fun i hi => hv i (by simp [slotsA, hi])]
theorem pdg_tup {k : Nat} (hc : X.calm = true) (h : PDGs X es ts) (hl : es.length = ts.length) (hn : (assignEach es X.env).length = es.length := by rfl) (hst : (assignEach es X.env).findIdx? (·.1) = none := by rfl) : PDG X (.Tuple es k pos) (.tp ts) :=
  (pg_tup (n := ts.length) hc h (hn.trans hl) hst).cq fun v σ H Q ⟨ι, L, ρ, d, s, r, ρ', L', hp, k⟩ => by
    cases d <;> first | (simp only [Tg.put] at hp; cases hp; done) | skip
    rename_i xs
    simp only [Tg.put] at hp
    obtain ⟨hx, hp⟩ := if_inv hp
    cases r with
    | tup ht ra => exact ⟨_, _, rfl, ht, by rw [ra.length]; exact hx, ι, L, ρ, xs, s, ra, ρ', L', hp, k⟩
theorem pds_asg {tg e : Expr} {fe : Ex} (he : PD X e fe) (hg : PDG X tg t) (hs : swapsWithSole [tg] e pos.line X.env = pure false := by rfl) (hw : swappedStores [tg] e X.env = pure none := by rfl) (h1 : (assignEach [tg] X.env).map (·.2) = [assign tg X.env] := by rfl) : PDS X (.Assign [tg] e pos) (sAsg t fe) := (ps_asg he hg hs hw h1).cq fun D σ H ⟨ι, L, ρ, s, r, L', hf, k⟩ => by
  obtain ⟨d, L1, h1, hf⟩ := bind_inv hf
  obtain ⟨ρ1, L2', hp, hf⟩ := bind_inv hf
  cases hf
  refine ⟨ι, L, ρ, s, d, _, h1, fun v ι1 H1 le1 g1 r1 => ⟨ι1, _, ρ, d, s.next le1 g1, r1, ρ1, _, hp, fun σ' ι' H' l le' s' w => ?_⟩⟩
  exact k σ' ι' H' l (le1.trans le') s'
/-- a, b = x, y with plain local names: the pair is not made -/
def sPar (i j : Nat) (fa fb : Ex) : Sm := fun ρ L => (fa ρ L).bind fun x L => (fb ρ L).bind fun y L => .ok (.nx, (ρ.set i (some x)).set j (some y)) L
theorem pds_par {i j : Nat} {x y : Str} {a b : Expr} {fa fb : Ex} {px py pt : Pos} {kt k2 pt2} (hc : X.calm = true) (hN : X.N.Nodup) (hi : X.N[i]? = some x) (hj : X.N[j]? = some y) (hij : i ≠ j)
    (hx : X.env.scope.names.lookup x = some .local) (hy : X.env.scope.names.lookup y = some .local) (ha : PDA X [a, b] [fa, fb])
    (hw : swappedStores [.Tuple [.Name x px, .Name y py] kt pt] (.Tuple [a, b] k2 pt2) X.env = pure (some [x, y]))
    (hs : swapsWithSole [.Tuple [.Name x px, .Name y py] kt pt] (.Tuple [a, b] k2 pt2) pos.line X.env = pure false := by rfl) :
    PDS X (.Assign [.Tuple [.Name x px, .Name y py] kt pt] (.Tuple [a, b] k2 pt2) pos) (sPar i j fa fb) := (ps_par hc hN hi hj hij hx hy ha hw hs).cq fun D σ H ⟨ι, L, ρ, s, r, L', hf, k⟩ => by
  obtain ⟨dx, L1, h1, hf⟩ := bind_inv hf
  obtain ⟨dy, L2', h2, hf⟩ := bind_inv hf
  cases hf
  refine ⟨ι, L, ρ, s, [dx, dy], L', ?_, fun vs ι1 H1 le g r => ?_⟩
  · simp only [eArgs, h1, h2, bind_ok]
  · cases r with
    | cons r1 r => cases r with
      | cons r2 r =>
        cases r
        exact ⟨_, _, rfl, k _ ι1 H1 (by simp) le ⟨g, ((s.s.mono s.g le).set r1 i).set r2 j⟩⟩
end
/-! ### what is walked -/
/-- an iterator yields the items, as long as what is walked stands -/
def Yl (W : Wd) (J : L2.It) (w : Wk) (ι1 : Io) (L1 : LH) (H1 : Hp) : Prop := ∀ ι L H, Lb ι1 L1 H1 ι L H → Good W ι L H → stays w.g L →
  (∀ i d, w.ds[i]? = some d → J.go i H ∧ ∀ x H', J.yld i H x H' → ∃ ι', Le ι L H ι' L H' ∧ Good W ι' L H' ∧ Rp W ι' (Lv ι' L) H' x d) ∧ J.stop w.ds.length H
def wI (W : Wd) (f : It) : TI := fun σ H R => ∃ ι L ρ, Sa W ι L H σ ρ ∧ ∃ w L', f ρ L = .ok w L' ∧ ∀ J ι' H', Le ι L H ι' L' H' → Good W ι' L' H' → Yl W J w ι' L' H' → R J H'
abbrev PDI (X : Cx) (tg iter : Expr) (f : It) : Prop := PI X tg iter (wI X.wd f)
theorem _root_.L2.PI.cq {X : Cx} {tg e : Expr} {t t' : TI} (h : PI X tg e t) (k : ∀ σ H Q, t' σ H Q → t σ H Q) : PI X tg e t' := ⟨fun pins s σ H R I q => h.run pins s σ H R I (k σ H R q)⟩
theorem _root_.L2.PI.or {X : Cx} {tg e : Expr} {t t' : TI} (h : PI X tg e t) (h' : PI X tg e t') : PI X tg e (fun σ H Q => t σ H Q ∨ t' σ H Q) :=
  ⟨fun pins s σ H R I q => q.elim (fun q => h.run pins s σ H R I q) fun q => h'.run pins s σ H R I q⟩
/-- a value walked: a tuple, a list, a list that is tracked, the script, a text sign by sign -/
def wkOf (d : D) (L : LH) : Res Wk := match d with
  | .tup xs => .ok ⟨xs, none⟩ L
  | .lst xs => .ok ⟨xs, none⟩ L
  | .scr xs => .ok ⟨xs.map D.int, none⟩ L
  | .str z => .ok ⟨z.cps.toList.map fun c => .str ⟨#[c]⟩, none⟩ L
  | .ref i => match L[i]? with
    | some (some (.lst xs)) => .ok ⟨xs, some (i, xs)⟩ L
    | _ => .bad
  | _ => .bad
def iV (a : Ex) : It := fun ρ L => (a ρ L).bind wkOf
section
variable {W : Wd} {ι1 : Io} {L1 : LH} {H1 : Hp} {a : Addr} {vs : List V} {xs : List D}
theorem yl_lst (g1 : Good W ι1 L1 H1) (h : H1 a = some (.lst vs)) (n : ¬ Lv ι1 L1 a) (r : RpA W ι1 (Lv ι1 L1) H1 vs xs) : Yl W (Itl W.K a) ⟨xs, none⟩ ι1 L1 H1 := fun ι L H le g _ => by
  have h' := SqL.of (K := W.K) (le.nl _ _ h n).1
  have r' := r.monoC g1 le
  refine ⟨fun i d hi => ?_, vs, h', by rw [r.length]; exact Nat.le_refl _⟩
  obtain ⟨v, hv, q⟩ := r'.get hi
  refine ⟨⟨vs, v, h', hv⟩, fun x H' ⟨e, hx⟩ => ?_⟩
  subst e
  have := hx vs h'
  rw [hv] at this
  cases this
  exact ⟨ι, .refl, g, q⟩
theorem yl_scr (g1 : Good W ι1 L1 H1) {ns : List Int} (h : ScrAt W.K H1 a (ns.map V.int)) : Yl W (Itl W.K a) ⟨ns.map D.int, none⟩ ι1 L1 H1 := fun ι L H le g _ => by
  have h' : SqL W.K H a (ns.map V.int) := (ScrAt.monoC g1 le h).sql
  refine ⟨fun i d hi => ?_, _, h', by simp⟩
  rw [List.getElem?_map] at hi
  cases e : ns[i]? with
  | none => rw [e] at hi; cases hi
  | some n =>
    rw [e] at hi; cases hi
    have hv : (ns.map V.int)[i]? = some (.int n) := by rw [List.getElem?_map, e]; rfl
    refine ⟨⟨_, _, h', hv⟩, fun x H' ⟨e, hx⟩ => ?_⟩
    subst e
    have := hx _ h'
    rw [hv] at this
    cases this
    exact ⟨ι, .refl, g, .int _⟩
theorem yl_ref (g1 : Good W ι1 L1 H1) {j : Nat} (hj : ι1.io j = some a) : Yl W (Itl W.K a) ⟨xs, some (j, xs)⟩ ι1 L1 H1 := fun ι L H le g st => by
  obtain ⟨b, hb, ws, hw, q⟩ := g.obj j _ st
  have := le.io _ _ hj
  rw [hb] at this; cases this
  have h' := SqL.of (K := W.K) hw
  refine ⟨fun i d hi => ?_, ws, h', by rw [q.length]; exact Nat.le_refl _⟩
  obtain ⟨v, hv, q⟩ := q.get hi
  refine ⟨⟨ws, v, h', hv⟩, fun x H' ⟨e, hx⟩ => ?_⟩
  subst e
  have := hx ws h'
  rw [hv] at this
  cases this
  exact ⟨ι, .refl, g, q⟩
theorem yl_str {z : Str} : Yl W (Its z) ⟨z.cps.toList.map fun c => .str ⟨#[c]⟩, none⟩ ι1 L1 H1 := fun ι L H le g _ => by
  refine ⟨fun i d hi => ?_, by show z.cps.size ≤ _; simp⟩
  rw [List.getElem?_map] at hi
  cases e : z.cps.toList[i]? with
  | none => rw [e] at hi; cases hi
  | some n =>
    rw [e] at hi; cases hi
    have e2 : z.cps[i]? = some n := by simpa using e
    refine ⟨?_, fun x H' ⟨e3, c, hc, hx⟩ => ?_⟩
    · show i < z.cps.size
      exact (Array.getElem?_eq_some_iff.mp e2).1
    · subst e3
      rw [e2] at hc; cases hc
      exact ⟨ι, .refl, g, by rw [hx]; exact .str _⟩
end
section
variable {X : Cx} {tg e : Expr} {fe : Ex} {pos : Pos}
theorem yl_tup' {W : Wd} {ι1 : Io} {L1 : LH} {H1 : Hp} {a : Addr} {vs : List V} {xs : List D} (g1 : Good W ι1 L1 H1) (h : SqT W.K H1 a vs) (r : RpA W ι1 (Lv ι1 L1) H1 vs xs) : Yl W (Itt W.K a) ⟨xs, none⟩ ι1 L1 H1 := fun ι L H le g _ => by
  have h' := SqT.monoC g1 le h
  have r' := r.monoC g1 le
  refine ⟨fun i d hi => ?_, vs, h', by rw [r.length]; exact Nat.le_refl _⟩
  obtain ⟨v, hv, q⟩ := r'.get hi
  refine ⟨⟨vs, v, h', hv⟩, fun x H' ⟨e, hx⟩ => ?_⟩
  subst e
  have := hx vs h'
  rw [hv] at this
  cases this
  exact ⟨ι, .refl, g, q⟩
theorem pdi_v (he : PD X e fe) : PDI X tg e (iV fe) := ((pi_list he).or ((pi_tup he).or (pi_str he))).cq fun σ H R ⟨ι, L, ρ, s, w, L', hf, k⟩ => by
  obtain ⟨d, L1, h1, hf⟩ := bind_inv hf
  cases d <;> first | (cases hf; done) | skip
  · cases hf
    refine .inr (.inr ⟨ι, L, ρ, s, _, _, h1, fun v ι1 H1 le1 g1 r1 => ⟨_, r1.str_inv, k _ ι1 H1 le1 g1 yl_str⟩⟩)
  · cases hf
    refine .inr (.inl ⟨ι, L, ρ, s, _, _, h1, fun v ι1 H1 le1 g1 r1 => ?_⟩)
    cases r1 with
    | tup ht ra => exact ⟨_, rfl, ⟨_, ht⟩, k _ ι1 H1 le1 g1 (yl_tup' g1 ht ra)⟩
  · cases hf
    refine .inl ⟨ι, L, ρ, s, _, _, h1, fun v ι1 H1 le1 g1 r1 => ?_⟩
    cases r1 with
    | lst hl n ra => exact ⟨_, rfl, ⟨_, SqL.of hl⟩, k _ ι1 H1 le1 g1 (yl_lst g1 hl n ra)⟩
  · cases hf
    refine .inl ⟨ι, L, ρ, s, _, _, h1, fun v ι1 H1 le1 g1 r1 => ?_⟩
    cases r1 with
    | scr h => exact ⟨_, rfl, ⟨_, h.sql⟩, k _ ι1 H1 le1 g1 (yl_scr g1 h)⟩
  · rename_i j
    unfold wkOf at hf
    cases hL : L1[j]? with
    | none => simp only [hL] at hf; cases hf
    | some o => cases o with
      | none => simp only [hL] at hf; cases hf
      | some o => cases o with
        | lst xs =>
          simp only [hL] at hf
          cases hf
          refine .inl ⟨ι, L, ρ, s, _, _, h1, fun v ι1 H1 le1 g1 r1 => ?_⟩
          cases r1 with
          | ref hj =>
            obtain ⟨b, hb, ws, hw, q⟩ := g1.obj j _ hL
            rw [hj] at hb; cases hb
            exact ⟨_, rfl, ⟨_, SqL.of hw⟩, k _ ι1 H1 le1 g1 (yl_ref g1 hj)⟩
        | dct ks xs => simp only [hL] at hf; cases hf
        | ins c fs => simp only [hL] at hf; cases hf
end
/-! ### for, while -/
section
variable {X : Cx} {tg iter c : Expr} {body : List Stmt} {it : It} {t : Tg} {f : Sm} {te : Te} {pos : Pos}
theorem pds_for (hp : PassesOwn (model X.prog X.w) X.A X.env X.xe) (hc : X.calm = true) (hi : PDI X tg iter it) (hg : PDG X tg t) (hb : PDSs X body f) (hs : ∀ x, foldedSetIterable iter X.env x = pure x := by intro _; rfl) :
    PDS X (.For tg iter body [] pos) (sFor it t f) := (ps_for hp hc hi hg hb hs).cq fun D σ H ⟨ι, L, ρ, s, r, L', hf, k⟩ => by
  obtain ⟨w, L1, h1, hf⟩ := bind_inv hf
  refine ⟨ι, L, ρ, s, w, L1, h1, fun J ι1 H1 le1 g1 yl => ?_⟩
  refine ⟨fun i m σ' H' => m = w.ds.length - i ∧ i ≤ w.ds.length ∧ ∃ ι2 L2 ρ2, σ'.length = σ.length ∧ Le ι1 L1 H1 ι2 L2 H' ∧ Sa X.wd ι2 L2 H' σ' ρ2 ∧ forGo w.g t f (w.ds.drop i) ρ2 L2 = .ok r L', ⟨_, rfl, Nat.zero_le _, ι1, L1, ρ, rfl, .refl, s.next le1 g1, by simpa using hf⟩, ?_⟩
  rintro i m σ2 H2 ⟨rfl, hi, ι2, L2, ρ2, hl2, le2, s2, hf2⟩
  have k2 := k.after (σ1 := σ2) hl2 (le1.trans le2)
  by_cases e : i < w.ds.length
  · rw [List.drop_eq_getElem_cons e] at hf2
    unfold forGo at hf2
    split at hf2
    · rename_i st
      obtain ⟨go, stop⟩ := yl ι2 L2 H2 le2.toLb s2.g st
      obtain ⟨gi, yi⟩ := go i w.ds[i] (by simp [e])
      obtain ⟨ρ3, L3, hp, hf2⟩ := bind_inv hf2
      · obtain ⟨⟨fl, ρ4⟩, L4, h4, hf2⟩ := bind_inv hf2
        refine .inr ⟨gi, fun σ' H' => ∃ ι2 L2 ρ2, σ'.length = σ.length ∧ Le ι1 L1 H1 ι2 L2 H' ∧ Sa X.wd ι2 L2 H' σ' ρ2 ∧ forGo w.g t f (w.ds.drop (i + 1)) ρ2 L2 = .ok r L', ?_, ?_⟩
        · rintro σ' H' ⟨ι5, L5, ρ5, hl5, le5, s5, hf5⟩
          exact ⟨_, by omega, rfl, e, ι5, L5, ρ5, hl5, le5, s5, hf5⟩
        · intro x H3 hy
          obtain ⟨ι3, le3, g3, r3⟩ := yi x H3 hy
          refine ⟨ι3, L2, ρ2, _, s2.next le3 g3, r3, ρ3, L3, hp, fun σ3 ι4 H4 l3 le4 s4 _ => ⟨ι4, L3, ρ3, s4, (fl, ρ4), L4, h4, ?_⟩⟩
          have k3 := k2.after (σ1 := σ3) l3 (le3.trans le4)
          cases fl with
          | nx => exact fun σ5 ι5 H5 l5 le5 s5 => ⟨ι5, L4, ρ4, (l5.trans l3).trans hl2, ((le2.trans le3).trans le4).trans le5, s5, hf2⟩
          | ct => exact fun σ5 ι5 H5 l5 le5 s5 => ⟨ι5, L4, ρ4, (l5.trans l3).trans hl2, ((le2.trans le3).trans le4).trans le5, s5, hf2⟩
          | bk => cases hf2; exact k3
          | rt d => cases hf2; exact k3
    · cases hf2
  · have e2 : i = w.ds.length := by omega
    subst e2
    rw [List.drop_length] at hf2
    unfold forGo at hf2
    split at hf2
    · rename_i st
      cases hf2
      exact .inl ⟨(yl ι2 L' H2 le2.toLb s2.g st).2, k2 σ2 ι2 H2 rfl .refl s2⟩
    · cases hf2
theorem pds_while (hp : PassesOwn (model X.prog X.w) X.A X.env X.xe) (hc : PDT X c te) (hb : PDSs X body f) : PDS X (.While c body [] pos) (sWh te f) := (ps_while hp hc hb).cq fun D σ H ⟨ι, L, ρ, s, r, L', hf, k⟩ => by
  refine ⟨fun m σ' H' => ∃ ι2 L2 ρ2, σ'.length = σ.length ∧ Le ι L H ι2 L2 H' ∧ Sa X.wd ι2 L2 H' σ' ρ2 ∧ whGo te f m ρ2 L2 = .ok r L', ⟨fuel, ι, L, ρ, rfl, .refl, s, hf⟩, ?_⟩
  rintro m σ2 H2 ⟨ι2, L2, ρ2, hl2, le2, s2, hf2⟩
  have k2 := k.after (σ1 := σ2) hl2 le2
  cases m with
  | zero => cases hf2
  | succ m =>
    unfold whGo at hf2
    obtain ⟨b, L3, h3, hf2⟩ := bind_inv hf2
    refine ⟨ι2, L2, ρ2, s2, b, L3, h3, fun ι3 H3 le3 g3 => ?_⟩
    have k3 := k2.after (σ1 := σ2) rfl le3
    cases b with
    | false => cases hf2; exact k3 σ2 ι3 H3 rfl .refl (s2.next le3 g3)
    | true =>
      simp only [if_true] at hf2
      obtain ⟨⟨fl, ρ4⟩, L4, h4, hf2⟩ := bind_inv hf2
      refine ⟨fun σ' H' => ∃ ι2 L2 ρ2, σ'.length = σ.length ∧ Le ι L H ι2 L2 H' ∧ Sa X.wd ι2 L2 H' σ' ρ2 ∧ whGo te f m ρ2 L2 = .ok r L', fun σ' H' h => ⟨m, Nat.lt_succ_self m, h⟩, ι3, L3, ρ2, s2.next le3 g3, (fl, ρ4), L4, h4, ?_⟩
      cases fl with
      | nx => exact fun σ5 ι5 H5 l5 le5 s5 => ⟨ι5, L4, ρ4, l5.trans hl2, (le2.trans le3).trans le5, s5, hf2⟩
      | ct => exact fun σ5 ι5 H5 l5 le5 s5 => ⟨ι5, L4, ρ4, l5.trans hl2, (le2.trans le3).trans le5, s5, hf2⟩
      | bk => cases hf2; exact k3
      | rt d => cases hf2; exact k3
end
end Cz
set_option linter.all false
set_option autoImplicit false
set_option maxRecDepth 100000
/-! The data layer: list comprehensions of any number of clauses. -/
namespace Cz
open PySem L2
theorem turnS {elt tg iter tg1 iter1 : Expr} {ifs ifs1 : List Expr} {gens : List Comprehension} {scope : Scope} {pos : Pos} {d : Nat} {it acc : Value} {env : Env} (h : gens[d]? = some ⟨tg, iter, ifs, 0⟩) (h1 : gens[d + 1]? = some ⟨tg1, iter1, ifs1, 0⟩) :
    compTurn (.ListComp elt gens scope pos) d it acc env = (do
      standAt iter.pos
      match ← pyNext it with
      | none => pure (.done .next)
      | some v =>
        letOwnedTupleGo tg it v
        assign tg env v
        let ok ← forIn ifs true fun c r => if r = true then do let ok ← isTrue c env (eval c env); pure (ForInStep.yield ok) else pure (ForInStep.yield r)
        if ok = true then do
          let x ← eval iter1 env
          standAt iter1.pos
          let x ← foldedSetIterable iter1 env x
          let _ ← runOwn (.compStart (.ListComp elt gens scope pos) (d + 1) (← holding [x] (pyIter x)) acc env) env
          again (.compLoop (.ListComp elt gens scope pos) d it acc env)
        else again (.compLoop (.ListComp elt gens scope pos) d it acc env)) := by
  unfold compTurn
  simp only [h, h1]
  rfl
theorem turnE {elt tg iter : Expr} {ifs : List Expr} {gens : List Comprehension} {scope : Scope} {pos : Pos} {d : Nat} {it acc : Value} {env : Env} (h : gens[d]? = some ⟨tg, iter, ifs, 0⟩) (h1 : gens[d + 1]? = none) :
    compTurn (.ListComp elt gens scope pos) d it acc env = (do
      standAt iter.pos
      match ← pyNext it with
      | none => pure (.done .next)
      | some v =>
        letOwnedTupleGo tg it v
        assign tg env v
        let ok ← forIn ifs true fun c r => if r = true then do let ok ← isTrue c env (eval c env); pure (ForInStep.yield ok) else pure (ForInStep.yield r)
        if ok = true then do
          (do let _ ← call (.builtin "list.append") [acc, ← eval elt env])
          again (.compLoop (.ListComp elt gens scope pos) d it acc env)
        else again (.compLoop (.ListComp elt gens scope pos) d it acc env)) := by
  unfold compTurn
  simp only [h, h1]
  rfl
/-! ### the loop of a clause, in the machine's words -/
section
variable {prog : Program} {w : World} {A : Around} {R : Result → Shared → Prop} {s : Shared} {elt tg iter : Expr} {ifs : List Expr} {gens : List Comprehension} {scope : Scope} {pos : Pos} {d : Nat} {it acc : Value} {env : Env}
/-- what a clause does with an item that is let: the next clause's loop, or the new item -/
def Emit (prog : Program) (w : World) (A : Around) (elt : Expr) (gens : List Comprehension) (scope : Scope) (pos : Pos) (d : Nat) (acc : Value) (env : Env) (P : Shared → Prop) (s : Shared) : Prop := match gens[d]? with
  | some g => wpAny (model prog w) A (eval g.iter env) (fun x s1 => wpAny (model prog w) A (pyIter x) (fun it s2 => codeAny (model prog w) A (.compStart (.ListComp elt gens scope pos) d it acc env) (fun r s' => match r with
      | .ok _ => P s'
      | .error _ => False) s2) (fun _ _ => False) s1) (fun _ _ => False) s
  | none => wpAny (model prog w) A (eval elt env) (fun x s1 => wpAny (model prog w) A (call (.builtin "list.append") [acc, x]) (fun _ s2 => P s2) (fun _ _ => False) s1) (fun _ _ => False) s
theorem loopN (h0 : gens[d]? = some ⟨tg, iter, ifs, 0⟩) (hz : ∀ g, gens[d + 1]? = some g → g.is_async = 0 ∧ ∀ x, foldedSetIterable g.iter env x = pure x) (I : Nat → Shared → Prop)
    (turn : ∀ n s, I n s → wpAny (model prog w) A (pyNext it) (fun r s1 => match r with
      | none => R (.ok .next) s1
      | some v => wpAny (model prog w) A (letOwnedTupleGo tg it v) (fun _ s2 => wpAny (model prog w) A (assign tg env v) (fun _ s3 =>
          wpAny (model prog w) A (forIn ifs true fun c r => if r = true then do let ok ← isTrue c env (eval c env); pure (ForInStep.yield ok) else pure (ForInStep.yield r)) (fun ok s4 =>
            if ok = true then Emit prog w A elt gens scope pos (d + 1) acc env (fun s5 => ∃ m, m < n ∧ I m s5) s4 else ∃ m, m < n ∧ I m s4) (fun _ _ => False) s3) (fun _ _ => False) s2) (fun _ _ => False) s1) (fun _ _ => False) s)
    (n : Nat) (h : I n s) : codeAny (model prog w) A (.compLoop (.ListComp elt gens scope pos) d it acc env) R s := by
  refine codeAny_loop rfl I (fun n s hI => ?_) n h
  show wpAny _ A ((compTurn (.ListComp elt gens scope pos) d it acc env).onRaise (fun x => do noteFrame x env; theTreesLotGoes x)) _ _ s
  refine wpAny_noted ?_
  have nof : ∀ (e : Value) (s' : Shared), False → notedBy (model prog w) A env (fun e s' => R (.error e) s') e s' := fun _ _ h => h.elim
  cases h1 : gens[d + 1]? with
  | none =>
    rw [turnE h0 h1]
    refine PySem.wpAny_bind (wpAny_standAt (PySem.wpAny_bind (wpAny_mono (turn n s hI) (fun r s₁ h₁ => ?_) nof)))
    cases r with
    | none => exact wpAny_pure h₁
    | some v =>
      refine PySem.wpAny_bind (wpAny_mono h₁ (fun _ s₁' h₁' => ?_) nof)
      refine PySem.wpAny_bind (wpAny_mono h₁' (fun _ s₂ h₂ => PySem.wpAny_bind (wpAny_mono h₂ (fun ok s₃ h₃ => ?_) nof)) nof)
      cases ok with
      | false => exact wpAny_pure ⟨rfl, h₃⟩
      | true =>
        unfold Emit at h₃
        simp only [if_true, h1] at h₃
        exact PySem.wpAny_bind (PySem.wpAny_bind (wpAny_mono h₃ (fun x s₄ h₄ => PySem.wpAny_bind (wpAny_mono h₄ (fun _ s₅ h₅ => wpAny_pure (wpAny_pure ⟨rfl, h₅⟩)) nof)) nof))
  | some g =>
    obtain ⟨tg1, iter1, ifs1, as1⟩ := g
    obtain ⟨ha, hs⟩ := hz _ h1
    have ha : as1 = 0 := ha
    subst ha
    rw [turnS h0 h1]
    refine PySem.wpAny_bind (wpAny_standAt (PySem.wpAny_bind (wpAny_mono (turn n s hI) (fun r s₁ h₁ => ?_) nof)))
    cases r with
    | none => exact wpAny_pure h₁
    | some v =>
      refine PySem.wpAny_bind (wpAny_mono h₁ (fun _ s₁' h₁' => ?_) nof)
      refine PySem.wpAny_bind (wpAny_mono h₁' (fun _ s₂ h₂ => PySem.wpAny_bind (wpAny_mono h₂ (fun ok s₃ h₃ => ?_) nof)) nof)
      cases ok with
      | false => exact wpAny_pure ⟨rfl, h₃⟩
      | true =>
        unfold Emit at h₃
        simp only [if_true, h1] at h₃
        refine PySem.wpAny_bind (wpAny_mono h₃ (fun x s₄ h₄ => ?_) nof)
        refine PySem.wpAny_bind (wpAny_standAt (PySem.wpAny_bind (wpAny_of_eq (hs x) (PySem.wpAny_bind (wpAny_holding (wpAny_mono h₄ (fun it1 s₅ h₅ => ?_) nof))))))
        refine PySem.wpAny_bind (wpAny_runOwn ?_)
        rw [Around.mark_none]
        refine codeAny_mono h₅ fun r s' hr => ?_
        cases r with
        | ok f => exact wpAny_pure ⟨rfl, hr⟩
        | error e => exact hr.elim
/-- a clause's start: its iterator is asked for itself once more, or not -/
theorem startN (h0 : gens[d]? = some ⟨tg, iter, ifs, 0⟩) (hl : codeAny (model prog w) A (.compLoop (.ListComp elt gens scope pos) d it acc env) R s)
    (h : wpAny (model prog w) A (pyIter it) (fun it' s' => codeAny (model prog w) A (.compLoop (.ListComp elt gens scope pos) d it' acc env) R s') (fun _ _ => False) s) :
    codeAny (model prog w) A (.compStart (.ListComp elt gens scope pos) d it acc env) R s := by
  refine codeAny_of_tree ?_
  show wpAny _ _ ((compStart (.ListComp elt gens scope pos) d it acc env).onRaise (fun x => do noteFrame x env; standAt theWindowsPlace)) _ _ s
  refine wpAny_notedAt ?_
  have hcl : (clausesOf (.ListComp elt gens scope pos))[d]? = some ⟨tg, iter, ifs, 0⟩ := h0
  unfold compStart
  simp only [hcl]
  show wpAny _ _ (ask >>= _) _ _ s
  refine PySem.wpAny_bind (wpAny_askSetting (wpAny_ite ?_))
  split
  · exact wpAny_pure (And.intro rfl hl)
  · refine PySem.wpAny_bind (wpAny_rule ?_)
    refine PySem.wpAny_bind (wpAny_standAt (PySem.wpAny_bind (wpAny_mono h (fun it' s' h' => wpAny_pure (And.intro rfl h')) fun _ _ x => x.elim)))
end
/-! ### slots wiped -/
theorem wipe_app {σ : L2.St} : ∀ {A B : List Nat}, L2.wipe σ (A ++ B) = L2.wipe (L2.wipe σ B) A
  | [], _ => rfl
  | a :: A, B => by
    show (L2.wipe σ (A ++ B)).set a none = (L2.wipe (L2.wipe σ B) A).set a none
    rw [wipe_app]
theorem wipe_none {σ : L2.St} {j : Nat} {v : V} : ∀ {A : List Nat}, j ∈ A → (L2.wipe σ A)[j]? ≠ some (some v)
  | a :: A, h => by
    show ((L2.wipe σ A).set a none)[j]? ≠ _
    by_cases e : a = j
    · subst e
      intro q
      by_cases lt : a < (L2.wipe σ A).length
      · rw [List.getElem?_set_self lt] at q; cases q
      · rw [List.getElem?_eq_none (by simpa using Nat.le_of_not_lt lt)] at q; cases q
    · rw [List.getElem?_set_ne e]
      refine wipe_none ?_
      rcases List.mem_cons.mp h with h | h
      · exact absurd h.symm e
      · exact h
theorem wipe_fix {σ : L2.St} : ∀ {A : List Nat}, (∀ j ∈ A, ∀ v, σ[j]? ≠ some (some v)) → L2.wipe σ A = σ
  | [], _ => rfl
  | a :: A, h => by
    show (L2.wipe σ A).set a none = σ
    rw [wipe_fix fun j hj => h j (List.mem_cons_of_mem _ hj)]
    refine List.ext_getElem? fun j => ?_
    by_cases e : a = j
    · subst e
      by_cases lt : a < σ.length
      · rw [List.getElem?_set_self lt]
        have := h a (List.mem_cons_self ..)
        cases q : σ[a]? with
        | none => rw [List.getElem?_eq_none_iff] at q; omega
        | some o => cases o with
          | none => rfl
          | some v => exact absurd q (this v)
      · rw [List.getElem?_eq_none (by simpa using Nat.le_of_not_lt lt), List.getElem?_eq_none (Nat.le_of_not_lt lt)]
    · rw [List.getElem?_set_ne e]
/-- back to slots that know no more -/
theorem weak_of {X : Cx} {pins : List (Addr × Obj)} {σ σ' : L2.St} {H : Hp} {s : Shared} {S : List Nat} (I : Inv X pins σ' H s) (hl : σ'.length = σ.length) (hw : L2.wipe σ' S = L2.wipe σ S) (hb : ∀ j ∈ S, ∀ v, σ[j]? ≠ some (some v)) : Inv X pins σ H s :=
  I.weak hl.symm fun j v e => by
    have n : j ∉ S := fun h => hb j h v e
    rw [← wipe_out (σ := σ') n, hw, wipe_out n]
    exact e
theorem RS.monoB {W : Wd} {ι ι' : Io} {L L' : LH} {H H' : Hp} {σ : L2.St} {ρ : Rho} (g : Good W ι L H) (le : Lb ι L H ι' L' H') (r : RS W ι (Lv ι L) H σ ρ) : RS W ι' (Lv ι' L') H' σ ρ :=
  ⟨r.len, fun i d h => let ⟨v, hv, q⟩ := r.get i d h; ⟨v, hv, q.monoC g le⟩⟩
theorem Lb.trans {ι ι' ι'' : Io} {L L' L'' : LH} {H H' H'' : Hp} (p : Lb ι L H ι' L' H') (q : Lb ι' L' H' ι'' L'' H'') : Lb ι L H ι'' L'' H'' :=
  ⟨fun i a h => q.io _ _ (p.io _ _ h), fun a o h n => let ⟨h1, n1⟩ := p.nl a o h n; q.nl a o h1 n1⟩
/-- a step while the list at D is made -/
structure Ld (D : Addr) (ι : Io) (L : LH) (H : Hp) (ι' : Io) (L' : LH) (H' : Hp) : Prop extends Lc ι L H ι' L' H' where
  zo : ∀ a, ι.z a → a ≠ D → H' a = H a
theorem Ld.refl {D : Addr} {ι : Io} {L : LH} {H : Hp} : Ld D ι L H ι L H := ⟨Le.refl.toLc, fun _ _ _ => rfl⟩
theorem Ld.trans {D : Addr} {ι ι' ι'' : Io} {L L' L'' : LH} {H H' H'' : Hp} (p : Ld D ι L H ι' L' H') (q : Ld D ι' L' H' ι'' L'' H'') : Ld D ι L H ι'' L'' H'' :=
  ⟨p.toLc.trans q.toLc, fun a h n => (q.zo a (by rw [p.zz]; exact h) n).trans (p.zo a h n)⟩
theorem Le.toLd {D : Addr} {ι ι' : Io} {L L' : LH} {H H' : Hp} (p : Le ι L H ι' L' H') : Ld D ι L H ι' L' H' := ⟨p.toLc, fun a h _ => p.zk a h⟩
/-- the list at D, as far as it is made -/
structure Cs (W : Wd) (D : Addr) (ι : Io) (L : LH) (H : Hp) (acc : List Cz.D) : Prop where
  z : ι.z D
  g : Good W ι L H
  l : ∃ vs, H D = some (.lst vs) ∧ RpA W ι (Lv ι L) H vs acc
theorem Cs.next {W : Wd} {D : Addr} {ι ι' : Io} {L L' : LH} {H H' : Hp} {acc : List Cz.D} (c : Cs W D ι L H acc) (le : Le ι L H ι' L' H') (g : Good W ι' L' H') : Cs W D ι' L' H' acc := by
  obtain ⟨vs, h, r⟩ := c.l
  exact ⟨by rw [le.zz]; exact c.z, g, vs, (le.zk D c.z).trans h, r.mono c.g le⟩
/-- one clause of a comprehension, in the block's context -/
structure ClOk (Y : Cx) (g : Comprehension) (c : Cl) : Prop where
  as : g.is_async = 0
  fs : ∀ x, foldedSetIterable g.iter Y.env x = pure x
  pi : PDI Y g.target g.iter c.it
  pg : PDG Y g.target c.tg
  pt : PTs Y g.ifs (wT Y.wd c.te)
/-- what is wanted behind -/
def Pq (Y : Cx) (pins : List (Addr × Obj)) (D : Addr) (S : List Nat) (σ : L2.St) (ι : Io) (L : LH) (H : Hp) (acc : List Cz.D) (L' : LH) (P : Shared → Prop) : Prop :=
  ∀ ι' H' s' σ', Inv Y pins σ' H' s' → σ'.length = σ.length → L2.wipe σ' S = L2.wipe σ S → Ld D ι L H ι' L' H' → Cs Y.wd D ι' L' H' acc → P s'
section
variable {Y : Cx} {elt : Expr} {gens : List Comprehension} {scope : Scope} {pos : Pos} {D : Addr} {fe : Ex}
def EmitOk (Y : Cx) (elt : Expr) (gens : List Comprehension) (scope : Scope) (pos : Pos) (D : Addr) (d : Nat) (cs : List Cl) (fe : Ex) : Prop :=
  ∀ (pins : List (Addr × Obj)) (s : Shared) (σ : L2.St) (H : Hp) (ι : Io) (L : LH) (ρ : Rho) (acc xs : List Cz.D) (L' : LH) (P : Shared → Prop), Inv Y pins σ H s → Cs Y.wd D ι L H acc → RS Y.wd ι (Lv ι L) H σ ρ → lcs cs fe ρ L = .ok xs L' → acc.length + xs.length ≤ sz →
    Pq Y pins D (slR cs) σ ι L H (acc ++ xs) L' P → Emit Y.prog Y.w Y.A elt gens scope pos d (.ref D) Y.env P s
theorem loop_core {g : Comprehension} {c : Cl} {cs : List Cl} {d : Nat} (hc : Y.calm = true) (hx : Y.xe = fun _ _ => False) (h0 : gens[d]? = some g) (has : g.is_async = 0) (okg : PDG Y g.target c.tg) (okt : PTs Y g.ifs (wT Y.wd c.te)) (hz : ∀ g, gens[d + 1]? = some g → g.is_async = 0 ∧ ∀ x, foldedSetIterable g.iter Y.env x = pure x)
    (em : EmitOk Y elt gens scope pos D (d + 1) cs fe) {pins : List (Addr × Obj)} {s : Shared} {σ : L2.St} {H : Hp} {ι : Io} {L : LH} {ρ : Rho} {acc xs : List Cz.D} {L' : LH} {R : Result → Shared → Prop} {w : Wk} {ι0 : Io} {L0 : LH} {H0 : Hp} {J : L2.It} {fp : List Addr} {it : Addr} {tn : Nat → Heap → Prop}
    (I : Inv Y pins σ H s) (cz : Cs Y.wd D ι L H acc) (rs : RS Y.wd ι (Lv ι L) H σ ρ) (hf : lcGo w.g c.tg c.te (lcs cs fe) ρ w.ds L = .ok xs L') (hlen : acc.length + xs.length ≤ sz) (hb : ∀ j ∈ slR (c :: cs), ∀ v, σ[j]? ≠ some (some v))
    (T : Turn Y.prog Y.w Y.K g.target J fp it tn) (st : tn 0 s.heap) (f : ∀ b ∈ fp, FpOk Y pins H b) (le0 : Lb ι0 L0 H0 ι L H) (yl : Yl Y.wd J w ι0 L0 H0)
    (fin : Pq Y pins D (slR (c :: cs)) σ ι L H (acc ++ xs) L' fun s' => R (.ok .next) s') :
    codeAny (model Y.prog Y.w) Y.A (.compLoop (.ListComp elt gens scope pos) d (.ref it) (.ref D) Y.env) R s := by
  obtain ⟨tg, iter, ifs, as⟩ := g
  have ha : as = 0 := has
  subst ha
  refine loopN h0 hz (fun n s' => ∃ (i : Nat) (H' : Hp) (ι' : Io) (L1 : LH) (acc' xs' : List Cz.D), Inv Y pins σ H' s' ∧ tn i s'.heap ∧ (∀ b ∈ fp, H' b = none) ∧ Ld D ι L H ι' L1 H' ∧ Cs Y.wd D ι' L1 H' (acc ++ acc') ∧ lcGo w.g c.tg c.te (lcs cs fe) ρ (w.ds.drop i) L1 = .ok xs' L' ∧ acc' ++ xs' = xs ∧ i ≤ w.ds.length ∧ n = w.ds.length - i) ?_ w.ds.length
    ⟨0, H, ι, L, [], xs, I, st, fun b hb => (f b hb).1, .refl, by simpa using cz, by simpa using hf, rfl, Nat.zero_le _, rfl⟩
  rintro n s5 ⟨i, H5, ι5, L5, acc5, xs5, I5, st5, n5, ld5, cz5, hf5, e5, hi, rfl⟩
  have stat : ∀ {H' : Hp}, (∀ b ∈ fp, H' b = none) → ∀ b ∈ fp, FpOk Y pins H' b := fun hn b hb => ⟨hn b hb, (f b hb).2⟩
  have lb5 := le0.trans ld5.toLb
  by_cases hlt : i < w.ds.length
  · rw [List.drop_eq_getElem_cons hlt] at hf5
    unfold lcGo at hf5
    split at hf5
    · rename_i stay
      obtain ⟨go, _⟩ := yl ι5 L5 H5 lb5 cz5.g stay
      obtain ⟨gi, yi⟩ := go i w.ds[i] (by simp [hlt])
      obtain ⟨ρ8, L8, hp, hf5⟩ := bind_inv hf5
      · obtain ⟨b, L9, h9, hf5⟩ := bind_inv hf5
        have ti := T.item Y rfl rfl rfl hc i pins s5 σ H5 (fun _ _ => False) I5 (stat n5) st5 gi
        refine thnF ti fun r s6 ⟨u, hr, h6⟩ => ?_
        subst hr
        refine thnF h6 fun _ s7 ⟨x, H7, I7, r7, y7, st7, n7⟩ => ?_
        obtain ⟨ι7, le7, g7, rp7⟩ := yi x H7 y7
        have I7' := I7.pinned (stat n7) (T.obj _ _ st7)
        have rs7 : RS Y.wd ι7 (Lv ι7 L5) H7 σ ρ := (rs.monoB cz.g ld5.toLb).monoB cz5.g le7.toLb
        have cz7 := cz5.next le7 g7
        have pgr := okg.run _ s7 σ H7 x u (fun σ' H' => ∃ ι', σ'.length = σ.length ∧ Le ι7 L5 H7 ι' L8 H' ∧ Sa Y.wd ι' L8 H' σ' ρ8 ∧ L2.wipe σ' (slR (c :: cs)) = L2.wipe σ (slR (c :: cs))) I7' r7
          ⟨ι7, L5, ρ, _, ⟨g7, rs7⟩, rp7, ρ8, L8, hp, fun σ' ι' H' l le s' wi => ⟨ι', l, le, s', wi _ fun j hj => by simp [slR, hj]⟩⟩
        rw [hx] at pgr
        refine thnF pgr fun _ s8 ⟨σ8, H8, I8, ι8, l8, le8, sa8, w8⟩ => ?_
        have cz8 := cz7.next le8 sa8.g
        have ptr := okt.run _ s8 σ8 H8 (fun b' H' => b' = b ∧ ∃ ι', Le ι8 L8 H8 ι' L9 H' ∧ Good Y.wd ι' L9 H') I8 ⟨ι8, L8, ρ8, sa8, b, L9, h9, fun ι' H' le g => ⟨rfl, ι', le, g⟩⟩
        rw [hx] at ptr
        refine thnF ptr fun b' s9 ⟨H9, I9, hb9, ι9, le9, g9⟩ => ?_
        subst hb9
        have pin' : ∀ {σ' : L2.St} {s' : Shared} {H' : Hp}, Inv Y (pins ++ pinsAt fp s7.heap) σ' H' s' → ∀ b ∈ fp, ∀ o, s7.heap.get? b = some o → s'.heap.get? b = some o ∧ H' b = none := fun {σ' s' H'} I' b hb o e =>
          let z := I'.pin (b, o) (List.mem_append_right _ (List.mem_append_right _ (mem_pinsAt hb e)))
          ⟨z.1, z.2.1⟩
        have back : ∀ {σ' : L2.St} {s' : Shared} {H' : Hp} {ι' : Io} {L1 : LH} {more xs' : List Cz.D}, Inv Y (pins ++ pinsAt fp s7.heap) σ' H' s' → σ'.length = σ8.length → L2.wipe σ' (slR cs) = L2.wipe σ8 (slR cs) → Ld D ι9 L9 H9 ι' L1 H' → Cs Y.wd D ι' L1 H' ((acc ++ acc5) ++ more) →
            lcGo w.g c.tg c.te (lcs cs fe) ρ (w.ds.drop (i + 1)) L1 = .ok xs' L' → more ++ xs' = xs5 →
            ∃ m, m < w.ds.length - i ∧ ∃ (i : Nat) (H' : Hp) (ι' : Io) (L1 : LH) (acc' xs' : List Cz.D), Inv Y pins σ H' s' ∧ tn i s'.heap ∧ (∀ b ∈ fp, H' b = none) ∧ Ld D ι L H ι' L1 H' ∧ Cs Y.wd D ι' L1 H' (acc ++ acc') ∧ lcGo w.g c.tg c.te (lcs cs fe) ρ (w.ds.drop i) L1 = .ok xs' L' ∧ acc' ++ xs' = xs ∧ i ≤ w.ds.length ∧ m = w.ds.length - i :=
          fun {σ' s' H' ι' L1 more xs'} I' l' w' ld' cz' hf' e' => by
            refine ⟨w.ds.length - (i + 1), by omega, i + 1, H', ι', L1, acc5 ++ more, xs', ?_, T.keep _ _ _ st7 fun b hb o e => (pin' I' b hb o e).1, fun b hb => ?_, (((ld5.trans le7.toLd).trans le8.toLd).trans le9.toLd).trans ld', by rw [← List.append_assoc]; exact cz', hf', by rw [List.append_assoc, e', e5], hlt, rfl⟩
            · refine weak_of I'.unpinned (l'.trans l8) ?_ hb
              show L2.wipe σ' (c.tg.slots ++ slR cs) = L2.wipe σ (c.tg.slots ++ slR cs)
              rw [wipe_app, w', ← wipe_app]
              exact w8
            · obtain ⟨o, e, _⟩ := T.obj _ _ st7 b hb
              exact (pin' I' b hb o e).2
        cases b' with
        | false =>
          simp only [Bool.false_eq_true, if_false] at hf5 ⊢
          exact back (more := []) I9 rfl rfl .refl (by simpa using cz8.next le9 g9) hf5 rfl
        | true =>
          simp only [if_true] at hf5 ⊢
          obtain ⟨xe, L10, h10, hf5⟩ := bind_inv hf5
          obtain ⟨xr, L11, h11, hf5⟩ := bind_inv hf5
          cases hf5
          refine em _ s9 σ8 H9 ι9 L9 ρ8 (acc ++ acc5) xe L10 _ I9 (cz8.next le9 g9) (sa8.s.mono sa8.g le9) h10 ?_ ?_
          · rw [← e5] at hlen
            simp only [List.length_append] at hlen ⊢
            omega
          · exact fun ι' H' s' σ' I' l' w' ld' cz' => back I' l' w' ld' cz' h11 rfl
    · cases hf5
  · have hi2 : i = w.ds.length := by omega
    subst hi2
    rw [List.drop_length] at hf5
    unfold lcGo at hf5
    split at hf5
    · rename_i stay
      cases hf5
      obtain ⟨_, stop⟩ := yl ι5 L' H5 lb5 cz5.g stay
      refine thnF (T.done Y rfl rfl rfl hc _ pins s5 σ H5 (fun _ _ => False) I5 (stat n5) st5 stop) fun r s6 ⟨hr, I6⟩ => ?_
      subst hr
      have e6 : acc5 = xs := by simpa using e5
      subst e6
      exact fin ι5 H5 s6 σ I6 rfl rfl ld5 cz5
    · cases hf5
theorem emit_ok (hc : Y.calm = true) (hx : Y.xe = fun _ _ => False) (he : PD Y elt fe) : ∀ (gs : List Comprehension) (cs : List Cl) (d : Nat), gens.drop d = gs → Paired (ClOk Y) gs cs → EmitOk Y elt gens scope pos D d cs fe := by
  intro gs
  induction gs with
  | nil =>
    intro cs d hd hp pins s σ H ι L ρ acc xs L' P I cz rs hf hlen k
    cases hp
    have h1 : gens[d]? = none := by rw [List.drop_eq_nil_iff] at hd; exact List.getElem?_eq_none hd
    unfold Emit
    simp only [h1]
    unfold lcs at hf
    obtain ⟨dx, L1, h2, hf⟩ := bind_inv hf
    cases hf
    have her := he.run pins s σ H (fun v H' => ∃ ι', Le ι L H ι' L' H' ∧ Good Y.wd ι' L' H' ∧ Rp Y.wd ι' (Lv ι' L') H' v dx) I ⟨ι, L, ρ, ⟨cz.g, rs⟩, dx, L', h2, fun v ι' H' le g r => ⟨ι', le, g, r⟩⟩
    rw [hx] at her
    refine thnF her fun u s1 ⟨v, H1, I1, rv, ι1, le1, g1, r1⟩ => ?_
    have cz1 := cz.next le1 g1
    obtain ⟨vs, hv, ra⟩ := cz1.l
    have hsz : vs.length < sizeLine := by
      rw [ra.length]
      have : acc.length + 1 ≤ sizeLine := by simpa [sz] using hlen
      omega
    refine app_ok I1 hv hsz rv fun s2 I2 => ?_
    obtain ⟨g2, lc2⟩ := g1.remake (p := D) (o := .lst (vs ++ [v])) cz1.z (.inl ⟨_, rfl⟩)
    refine k ι1 _ s2 σ I2 rfl rfl ⟨le1.toLc.trans lc2, fun a ha hn => (upd_ne hn).trans (le1.zk a ha)⟩ ⟨cz1.z, g2, vs ++ [v], upd_same, ?_⟩
    exact (ra.append (.one r1)).monoC g1 lc2.toLb
  | cons g gs ih =>
    intro cs d hd hp pins s σ H ι L ρ acc xs L' P I cz rs hf hlen k
    cases hp with
    | cons ok hp =>
      rename_i c cs
      have h0 : gens[d]? = some g := by
        have e : (gens.drop d)[0]? = some g := by rw [hd]; rfl
        simpa using e
      have hd1 : gens.drop (d + 1) = gs := by
        have e : (gens.drop d).tail = gs := by rw [hd]; rfl
        simpa using e
      have em := ih cs (d + 1) hd1 hp
      have hz : ∀ g, gens[d + 1]? = some g → g.is_async = 0 ∧ ∀ x, foldedSetIterable g.iter Y.env x = pure x := by
        intro g1 hg1
        have e : gs[0]? = some g1 := by rw [← hd1]; simpa using hg1
        cases hp with
        | nil => simp at e
        | cons ok1 _ => simp at e; subst e; exact ⟨ok1.as, ok1.fs⟩
      unfold lcs at hf
      obtain ⟨w, L1, h2, hf⟩ := bind_inv hf
      unfold Emit
      simp only [h0]
      have pir := ok.pi.run pins s σ H (fun J H' => ∃ ι', Le ι L H ι' L1 H' ∧ Good Y.wd ι' L1 H' ∧ Yl Y.wd J w ι' L1 H') I ⟨ι, L, ρ, ⟨cz.g, rs⟩, w, L1, h2, fun J ι' H' le g y => ⟨ι', le, g, y⟩⟩
      rw [hx] at pir
      refine thnF pir fun xv s1 hx1 => thnF hx1 fun itv s2 h3 => ?_
      obtain ⟨it, fp, tn, J, H2, e, I2, T, st2, f2, ι2, le2, g2, yl⟩ := h3
      subst e
      have cz2 := cz.next le2 g2
      have lp : codeAny (model Y.prog Y.w) Y.A (.compLoop (.ListComp elt gens scope pos) d (.ref it) (.ref D) Y.env) (fun r s' => match r with
          | .ok _ => P s'
          | .error _ => False) s2 := by
        refine loop_core hc hx h0 ok.as ok.pg ok.pt hz em (σ := L2.wipe σ (slR (c :: cs))) (ρ := wipeR ρ (slR (c :: cs))) (I2.weak (wipe_length _ _) fun j v e => (wipe_some e).1) cz2 ((rs.mono cz.g le2).wipe _) hf hlen (fun j hj v => wipe_none hj) T st2 f2 ⟨fun _ _ h => h, fun _ _ h n => ⟨h, n⟩⟩ yl ?_
        intro ι' H' s' σ' I' l' w' ld' cz'
        refine k ι' H' s' σ' I' (l'.trans (wipe_length _ _)) ?_ (le2.toLd.trans ld') cz'
        rw [w', wipe_fix fun j hj v => wipe_none hj]
      obtain ⟨tg, iter, ifs, as⟩ := g
      have ha : as = 0 := ok.as
      subst ha
      exact startN h0 lp (T.self Y.A 0 _ _ _ st2 lp)
end
/-! ### the whole comprehension -/
section
variable {X : Cx} {elt tg iter : Expr} {ifs : List Expr} {gs : List Comprehension} {scope : Scope} {own : List (Str × Nat)} {pos : Pos} {c : Cl} {cs : List Cl} {fe : Ex}
/-- the pieces of the block, in the block's context -/
structure Blk (Y : Cx) (tg : Expr) (ifs : List Expr) (elt : Expr) (gs : List Comprehension) (c : Cl) (cs : List Cl) (fe : Ex) : Prop where
  pg : PDG Y tg c.tg
  pt : PTs Y ifs (wT Y.wd c.te)
  cl : Paired (ClOk Y) gs cs
  pe : PD Y elt fe
theorem comp_core {pins : List (Addr × Obj)} {s : Shared} {σ : L2.St} {H : Hp} {Q : VK} {pos' : Pos} {use : Option (Value → Sem Unit)} {Qf : Value → Shared → Prop}
    (hc : X.calm = true) (hN : X.N.Nodup) (I : Inv X pins σ H s) (hi : PDI X tg iter c.it) (ok : BlkOk X.N X.env.scope scope own)
    (hk : ∀ (s : Shared) (H : Hp) (C : Addr) (cl : List (Str × Addr)) (fp : List Addr), Blk (X.blk s H scope (compEnvC scope cl C X.env) fp) tg ifs elt gs c cs fe)
    (hs : ∀ x, foldedSetIterable iter X.env x = pure x) (hsl : ∀ j ∈ slR (c :: cs), j ∈ own.map (·.2)) (h : wE X.wd (eLc (own.map (·.2)) c cs fe) σ H Q)
    (hRR : ∀ D C s' m H', Inv X pins σ H' s' → Q (.ref D) H' → s'.heap.Ns C m → FpOk X pins H' C → compPost (model X.prog X.w) X.A X.xe use Qf (.ref D) C (.ok .next) s') :
    wpAny (model X.prog X.w) X.A (comprehension (.ListComp elt (⟨tg, iter, ifs, 0⟩ :: gs) scope pos) scope X.env pos' (newList []) false (eval iter X.env) use) Qf X.xe s := by
  obtain ⟨ι, L, ρ, sa, d, L', hf, k⟩ := h
  obtain ⟨w, L1, h1, hf⟩ := bind_inv hf
  obtain ⟨xs, L2, h2, hf⟩ := bind_inv hf
  obtain ⟨hlen, hf⟩ := if_inv hf
  cases hf
  have hfree : ∀ y ∈ scope.names, y.2 = .free → ∃ c, X.env.cells.lookup y.1 = some c := fun y hy e => (ok.free y hy e).elim (fun q => I.ok.has _ (.inl q)) fun q => I.ok.has _ (.inr q)
  have pir := hi.run pins s σ H (fun J H' => ∃ ι', Le ι L H ι' L1 H' ∧ Good X.wd ι' L1 H' ∧ Yl X.wd J w ι' L1 H') I ⟨ι, L, ρ, sa, w, L1, h1, fun J ι' H' le g y => ⟨ι', le, g, y⟩⟩
  refine wpAny_comprehension_free (use := use) rfl hs (closure_ok hfree) ok.kind (fun y hy e => by rw [ok.uniq y hy, e]) (thn pir fun xv s1 hx => thn hx fun itv s2 h3 => ?_)
  obtain ⟨it, fp, tn, J, H2, e, I2, T, st2, f2, ι2, le2, g2, yl⟩ := h3
  subst e
  refine wpAny_newObj_type (newEnv_comp ?_) (by show 0 ≤ sizeLine; decide)
  generalize hD : s2.heap.objs.size = D
  have hDn : H2 D = none := I2.hok.fresh (Nat.le_of_eq hD)
  generalize hs3 : ({ s2 with heap := s2.heap.push { cls := .type "list", data := .seq ([] : List Value).toArray } } : Shared) = s3
  have q3 : s3.heap = s2.heap.push { cls := .type "list", data := .seq ([] : List Value).toArray } := by rw [← hs3]
  have I3 : Inv X pins σ (upd H2 D (.lst [])) s3 := by
    rw [← hs3]
    refine I2.laid (t' := s2.toks) (fun b o e => Heap.get?_push_of_some _ e) (Nat.le_of_eq hD) ⟨Nat.zero_le _, [], 0, .nil, ?_⟩
    rw [← hD]
    exact Heap.get?_push_size _ rfl
  have small : ∀ b ∈ fp, b < s2.heap.objs.size := fun b hb => by
    obtain ⟨o, e, _⟩ := T.obj _ _ st2 b hb
    exact Heap.lt_size e
  have f3 : ∀ b ∈ fp, FpOk X pins (upd H2 D (.lst [])) b ∧ b < s3.heap.objs.size := fun b hb => by
    have hlt := small b hb
    refine ⟨⟨?_, (f2 b hb).2⟩, by rw [q3, Heap.size_push]; exact Nat.lt_succ_of_lt hlt⟩
    rw [upd_ne (by rw [← hD]; exact Nat.ne_of_lt hlt)]
    exact (f2 b hb).1
  have st3 : tn 0 s3.heap := T.keep _ _ _ st2 fun b _ o e => by rw [q3]; exact Heap.get?_push_of_some _ e
  have I4 := block_start I3 ok hN f3
  have bk := hk s3 (upd H2 D (.lst [])) s3.heap.objs.size (cellsFrom (s3.heap.objs.size + 1) scope.names (cloFrom X.env.cells scope.names [])) fp
  show codeAny _ _ (.compStart (.ListComp elt (⟨tg, iter, ifs, 0⟩ :: gs) scope pos) 0 (.ref it) (.ref D) (compEnvC scope (cellsFrom (s3.heap.objs.size + 1) scope.names (cloFrom X.env.cells scope.names [])) s3.heap.objs.size X.env)) (compPost (model X.prog X.w) X.A X.xe use Qf (.ref D) s3.heap.objs.size) { s3 with heap := pushCells (s3.heap.push { cls := .type "dict", data := .dict #[] }) scope.names }
  have nfp : ∀ b ∈ fp, (upd H2 D (.lst [])) b = none := fun b hb => (f3 b hb).1.1
  generalize hce : compEnvC scope (cellsFrom (s3.heap.objs.size + 1) scope.names (cloFrom X.env.cells scope.names [])) s3.heap.objs.size X.env = ce at I4 bk ⊢
  have cL : ce.locals = s3.heap.objs.size := by subst hce; rfl
  have czs : Cs X.wd D (zPut ι2 D) L1 (upd H2 D (.lst [])) [] := ⟨.inr rfl, g2.begin hDn (.inl ⟨_, rfl⟩), [], upd_same, .nil⟩
  have lbs : Lb ι2 L1 H2 (zPut ι2 D) L1 (upd H2 D (.lst [])) := Lb.begin hDn
  have fresh3 : ∀ a, ι2.z a → a ≠ D := fun a ha e => by subst e; exact g2.zFresh hDn ha
  generalize hH3 : upd H2 D (.lst []) = H3 at I3 I4 bk nfp f3 czs lbs
  generalize hs4 : ({ s3 with heap := pushCells (s3.heap.push { cls := .type "dict", data := .dict #[] }) scope.names } : Shared) = s4 at I4 ⊢
  have st4 : tn 0 s4.heap := T.keep _ _ _ st3 fun b _ o e => by rw [← hs4]; exact pushCells_keeps _ _ _ _ (Heap.get?_push_of_some _ e)
  have stat : ∀ b ∈ fp, FpOk (X.blk s3 H3 scope ce fp) [] H3 b := fun b hb =>
    ⟨nfp b hb, (I4.ok.exf b hb).1, I4.ok.exfs b hb, .inl hb, fun x c e => (I4.ok.exf b hb).2 x c e, fun p hp => absurd (show p ∈ ([] : List (Addr × Obj)) ++ [] from hp) (by simp)⟩
  have em := emit_ok (Y := X.blk s3 H3 scope ce fp) (elt := elt) (gens := ⟨tg, iter, ifs, 0⟩ :: gs) (scope := scope) (pos := pos) (D := D) (fe := fe) hc rfl bk.pe gs cs 1 rfl bk.cl
  have hz : ∀ g, (⟨tg, iter, ifs, 0⟩ :: gs : List Comprehension)[0 + 1]? = some g → g.is_async = 0 ∧ ∀ x, foldedSetIterable g.iter ce x = pure x := by
    intro g1 hg1
    have hg1 : gs[0]? = some g1 := by simpa using hg1
    have := bk.cl
    cases this with
    | nil => simp at hg1
    | cons ok1 _ => simp at hg1; subst hg1; exact ⟨ok1.as, ok1.fs⟩
  have loop : codeAny (model X.prog X.w) X.A (.compLoop (.ListComp elt (⟨tg, iter, ifs, 0⟩ :: gs) scope pos) 0 (.ref it) (.ref D) ce) (compPost (model X.prog X.w) X.A X.xe use Qf (.ref D) s3.heap.objs.size) s4 := by
    have pgX := bk.pg
    have ptX := bk.pt
    refine loop_core (Y := X.blk s3 H3 scope ce fp) (g := ⟨tg, iter, ifs, 0⟩) (c := c) hc rfl rfl rfl pgX ptX hz em I4 czs ((((sa.s.mono sa.g le2).wipe (own.map (·.2))).monoB g2 lbs)) h2 (by simpa using hlen) (fun j hj v => wipe_none (hsl j hj)) T st4 stat lbs yl ?_
    intro ι' H' s' σ' I' l' w' ld' cz'
    have I7 : Inv X pins σ H' s' := I3.call' (ch := fp) I'.os I'.base I'.hok I'.bare fun b hb => ⟨(f3 b hb).1.2.2.2.1, (f3 b hb).1.2.1, (f3 b hb).1.2.2.2.2.1, (f3 b hb).1.2.2.2.2.2⟩
    have nC : H' s3.heap.objs.size = none := by
      have z : H' ce.locals = none := I'.free
      rw [cL] at z
      exact z
    obtain ⟨m, hn, _⟩ := I'.loc
    have hn : s'.heap.Ns ce.locals m := hn
    rw [cL] at hn
    refine hRR D s3.heap.objs.size s' m H' I7 ?_ hn (I3.fpOk (Nat.le_refl _) nC)
    -- the list is made
    have zz' : ∀ a, ι'.z a ↔ ι2.z a ∨ a = D := fun a => by rw [ld'.zz]; exact Iff.rfl
    have gf : Good X.wd ⟨ι'.io, ι2.z⟩ L' H' := Good.finish (ι := ⟨ι'.io, ι2.z⟩) (z := ι'.z) cz'.g zz'
    have wk : ∀ a, Lv ⟨ι'.io, ι2.z⟩ L' a → Lv ι' L' a := fun a q => q.elim (fun q => .inl q) fun q => .inr ((zz' a).mpr (.inl q))
    have lef : Le ι2 L1 H2 ⟨ι'.io, ι2.z⟩ L' H' := by
      refine ⟨⟨⟨fun i a q => ld'.io _ _ (lbs.io _ _ q), fun a o q n => ?_⟩, rfl⟩, fun a ha => ?_⟩
      · obtain ⟨a1, a2⟩ := lbs.nl a o q n
        obtain ⟨b1, b2⟩ := ld'.nl a o a1 a2
        exact ⟨b1, fun z => b2 (wk a z)⟩
      · rw [ld'.zo a (.inl ha) (fresh3 a ha), ← hH3, upd_ne (fresh3 a ha)]
    obtain ⟨vs, hv, ra⟩ := cz'.l
    refine k (.ref D) ⟨ι'.io, ι2.z⟩ H' (le2.trans lef) gf (.lst hv ?_ (RpA.weak (ι := ι') (z := ι2.z) wk (by simpa using ra)))
    rintro (⟨i, o, hi, hL⟩ | q)
    · exact cz'.g.zi i D hi cz'.z
    · exact fresh3 D q rfl
  exact startN rfl loop (T.self X.A 0 _ _ _ st4 loop)
theorem pd_lc (hc : X.calm = true) (hN : X.N.Nodup) (hi : PDI X tg iter c.it) (ok : BlkOk X.N X.env.scope scope own)
    (hk : ∀ (s : Shared) (H : Hp) (C : Addr) (cl : List (Str × Addr)) (fp : List Addr), Blk (X.blk s H scope (compEnvC scope cl C X.env) fp) tg ifs elt gs c cs fe)
    (hsl : ∀ j ∈ slR (c :: cs), j ∈ own.map (·.2) := by decide) (hs : ∀ x, foldedSetIterable iter X.env x = pure x := by intro _; rfl) :
    PD X (.ListComp elt (⟨tg, iter, ifs, 0⟩ :: gs) scope pos) (eLc (own.map (·.2)) c cs fe) := by
  refine ⟨fun pins s σ H Q I h => ?_⟩
  rw [eval_ListComp]
  refine comp_core hc hN I hi ok hk hs hsl h fun D C s' m H' I' q hn f => ⟨m, hn, fun h'' sb => ?_⟩
  obtain ⟨f0, f1, f2, f3, f4, f5⟩ := f
  exact ⟨.ref D, H', I'.turned (t' := s'.toks) (fun b o hb e => (sb.2 b hb).trans e) f0 f1 f3 f4 f5, rfl, q⟩
/-- name = [..] on one line, the name a local -/
theorem pds_setLc {i : Nat} {y : Str} {py : Pos} {spos : Pos} (hc : X.calm = true) (hN : X.N.Nodup) (hy : X.N[i]? = some y) (hyl : X.env.scope.names.lookup y = some .local)
    (hsw : swapsWith (.ListComp elt (⟨tg, iter, ifs, 0⟩ :: gs) scope pos) (some (.Name y py)) spos.line X.env = pure true) (hi : PDI X tg iter c.it) (ok : BlkOk X.N X.env.scope scope own)
    (hk : ∀ (s : Shared) (H : Hp) (C : Addr) (cl : List (Str × Addr)) (fp : List Addr), Blk (X.blk s H scope (compEnvC scope cl C X.env) fp) tg ifs elt gs c cs fe)
    (hsl : ∀ j ∈ slR (c :: cs), j ∈ own.map (·.2) := by decide) (hs : ∀ x, foldedSetIterable iter X.env x = pure x := by intro _; rfl) :
    PDS X (.Assign [.Name y py] (.ListComp elt (⟨tg, iter, ifs, 0⟩ :: gs) scope pos) spos) (sAsg (.nm i) (eLc (own.map (·.2)) c cs fe)) := by
  refine ⟨fun pins s σ H D I ⟨ι, L, ρ, sa, r, L', hf, k⟩ => ?_⟩
  obtain ⟨d, L1, h1, hf⟩ := bind_inv hf
  simp only [Tg.put, bind_ok] at hf
  cases hf
  rw [exec_Assign_Name_used _ _ _ _ hsw]
  refine PySem.wpAny_bind (wpAny_standAt (PySem.wpAny_bind ?_))
  show wpAny _ X.A (do let _ ← comprehension (.ListComp elt (⟨tg, iter, ifs, 0⟩ :: gs) scope pos) scope X.env (firstIterPos (⟨tg, iter, ifs, 0⟩ :: gs) pos) (newList []) false (eval iter X.env) (some (assign (.Name y py) X.env))) _ _ s
  have h : wE X.wd (eLc (own.map (·.2)) c cs fe) σ H (fun x H1 => D.nx (σ.set i (some x)) H1) := ⟨ι, L, ρ, sa, d, _, h1, fun v ι' H' le g r => k _ ι' H' (by simp) le ⟨g, (sa.s.mono sa.g le).set r i⟩⟩
  refine PySem.wpAny_bind (thn (comp_core (Qf := fun _ s' => SP X pins D .next s') hc hN I hi ok hk hs hsl h fun L C s' m H' I' q hn f => ?_) fun _ s' hq => wpAny_pure (wpAny_pure hq))
  show wpAny _ _ (assign (.Name y py) X.env (.ref L)) _ _ _
  refine wpAny_assign_Name (store_ok2 (v := V.ref L) I' hN hy (.inl hyl) rfl (fun s2 I2 ⟨a, sb, ha⟩ => ?_) (.inr hyl))
  obtain ⟨f0, f1, f2, f3, f4, f5⟩ := f
  have haC : C ≠ a := by
    rcases ha with z | z
    · rw [z]; exact f1
    · exact fun e => f4 y a z e.symm
  refine ⟨m, hn.sameBut sb haC, fun h3 sb3 => ?_⟩
  exact ⟨_, H', I2.turned (t' := s2.toks) (fun b o hb e => (sb3.2 b hb).trans e) f0 f1 f3 f4 f5, q⟩
end
end Cz
set_option linter.all false
set_option autoImplicit false
set_option maxRecDepth 100000
/-! The data layer: subscripts, slices, calls of built-ins, of defs, of methods, attributes, stores. -/
namespace Cz
open PySem L2
/-! ### places -/
theorem atI_ex {α : Type} {xs : List α} {i : Int} {d : α} (h : atI xs i = some d) : ∃ j, ixN xs.length i = some j ∧ xs[j]? = some d := by
  unfold atI at h
  obtain ⟨j, h1, h2⟩ := Option.bind_eq_some_iff.mp h
  exact ⟨j, h1, h2⟩
theorem RpA.atI {W : Wd} {ι : Io} {lv : Addr → Prop} {H : Hp} {vs : List V} {xs : List D} {i : Int} {d : D} (r : RpA W ι lv H vs xs) (h : L2.atI xs i = some d) : ∃ v, L2.atI vs i = some v ∧ Rp W ι lv H v d := by
  obtain ⟨j, h1, h2⟩ := atI_ex h
  obtain ⟨v, hv, q⟩ := r.get h2
  refine ⟨v, ?_, q⟩
  unfold L2.atI
  rw [r.length, h1]
  exact hv
theorem atI_map {xs : List Int} {i : Int} {d : Int} (h : L2.atI xs i = some d) : L2.atI (xs.map V.int) i = some (.int d) := by
  obtain ⟨j, h1, h2⟩ := atI_ex h
  unfold L2.atI
  rw [List.length_map, h1]
  simp [h2]
/-! ### a dict's table -/
theorem look_some {W : Wd} {ι : Io} {lv : Addr → Prop} {H : Hp} {k : Key} : ∀ {kvs : List (Key × V)} {ks : List Key} {xs : List D} {d : D}, kvs.map (·.1) = ks → RpA W ι lv H (kvs.map (·.2)) xs → look ks xs k = some d → ∃ v, valV kvs k = some v ∧ Rp W ι lv H v d
  | [], _, _, _, rfl, r, h => by cases r; simp [look] at h
  | (k1, v1) :: kvs, _, _, d, rfl, r, h => by
    cases r with
    | cons q r =>
      simp only [List.map_cons, look] at h
      by_cases e : k1 = k
      · rw [if_pos e] at h; cases h
        exact ⟨v1, valV_pos e, q⟩
      · rw [if_neg e] at h
        obtain ⟨v, hv, q⟩ := look_some rfl r h
        exact ⟨v, by rw [valV_neg e]; exact hv, q⟩
theorem look_none {W : Wd} {ι : Io} {lv : Addr → Prop} {H : Hp} {k : Key} : ∀ {kvs : List (Key × V)} {ks : List Key} {xs : List D}, kvs.map (·.1) = ks → RpA W ι lv H (kvs.map (·.2)) xs → look ks xs k = none → valV kvs k = none
  | [], _, _, rfl, r, h => valV_nil
  | (k1, v1) :: kvs, _, _, rfl, r, h => by
    cases r with
    | cons q r =>
      simp only [List.map_cons, look] at h
      by_cases e : k1 = k
      · rw [if_pos e] at h; cases h
      · rw [if_neg e] at h
        rw [valV_neg e]; exact look_none rfl r h
theorem repl_ok {W : Wd} {ι : Io} {lv : Addr → Prop} {H : Hp} {k : Key} {v : V} {y : D} (q : Rp W ι lv H v y) : ∀ {kvs : List (Key × V)} {ks : List Key} {xs : List D}, kvs.map (·.1) = ks → RpA W ι lv H (kvs.map (·.2)) xs →
    RpA W ι lv H ((kvs.map fun kv => if kv.1 = k then (kv.1, v) else kv).map (·.2)) (repl ks xs k y)
  | [], _, _, rfl, r => by cases r; exact .nil
  | (k1, v1) :: kvs, _, _, rfl, r => by
    cases r with
    | cons p r =>
      simp only [List.map_cons, repl]
      refine .cons ?_ (repl_ok q rfl r)
      by_cases e : k1 = k
      · rw [if_pos e, if_pos e]; exact q
      · rw [if_neg e, if_neg e]; exact p
theorem dput_ok {W : Wd} {ι : Io} {lv : Addr → Prop} {H : Hp} {k : Key} {v : V} {y : D} (q : Rp W ι lv H v y) {kvs : List (Key × V)} {ks : List Key} {xs : List D} (hk : kvs.map (·.1) = ks) (r : RpA W ι lv H (kvs.map (·.2)) xs) :
    (putK kvs k v).map (·.1) = (dput ks xs k y).1 ∧ RpA W ι lv H ((putK kvs k v).map (·.2)) (dput ks xs k y).2 := by
  have e : (kvs.any fun kv => decide (kv.1 = k)) = ks.any fun j => decide (j = k) := by rw [← hk, List.any_map]; rfl
  unfold putK dput
  rw [e]
  by_cases c : (ks.any fun j => decide (j = k)) = true
  · rw [if_pos c, if_pos c]
    refine ⟨?_, repl_ok q hk r⟩
    rw [List.map_map, ← hk]
    refine List.map_congr_left fun kv _ => ?_
    by_cases z : kv.1 = k
    · simp [z]
    · simp [z]
  · rw [if_neg c, if_neg c]
    refine ⟨by simp [hk], ?_⟩
    rw [List.map_append]
    exact r.append (.one q)
section
variable {X : Cx} {a b e o : Expr} {es : List Expr} {fa fb fe fo : Ex} {fs : List Ex} {pos : Pos}
/-! ### a[b] -/
theorem pd_ix (hu : X.A.units + 1 < cLine) (ha : PD X a fa) (hb : PD X b fb) (hs : PlainIx b := by intro _ _; rfl) : PD X (.Subscript a b pos) (e2 ixD fa fb) :=
  ((pe_ix ix_seq ha hb hs).or (pe_dget hu ha hb hs)).cq fun σ H Q ⟨ι, L, ρ, s, d, L', hf, k⟩ => by
    obtain ⟨dx, L1, h1, hf⟩ := bind_inv hf
    obtain ⟨dy, L2', h2, hf⟩ := bind_inv hf
    unfold ixD at hf
    have run : ∀ {R : V → V → Hp → Prop}, (∀ ι H x y, Good X.wd ι L2' H → Rp X.wd ι (Lv ι L2') H x dx → Rp X.wd ι (Lv ι L2') H y dy → Af X.wd ι L2' H d L' Q → R x y H) → wE X.wd fa σ H fun x H1 => wE X.wd fb σ H1 fun y H2 => R x y H2 := fun {R} kk =>
      ⟨ι, L, ρ, s, dx, L1, h1, fun x ι1 H1 le1 g1 r1 => ⟨ι1, L1, ρ, s.next le1 g1, dy, L2', h2, fun y ι2 H2 le2 g2 r2 => kk ι2 H2 x y g2 (r1.mono g1 le2) r2 (Af.after (le1.trans le2) k)⟩⟩
    split at hf
    · rename_i q1
      split at hf
      · rename_i q2; cases hf
        refine .inl (run fun ι H x y g rx ry k => ?_)
        obtain ⟨p, vs, rfl, hv, ra⟩ := rx.seeT q1
        obtain ⟨v, hv2, rv⟩ := ra.atI q2
        exact .inr (.inl ⟨p, vs, _, v, rfl, ry.int_inv, hv, hv2, k.now g rv⟩)
      · cases hf
    · rename_i q1
      split at hf
      · rename_i q2; cases hf
        refine .inl (run fun ι H x y g rx ry k => ?_)
        obtain ⟨p, vs, rfl, hv, ra⟩ := g.seeL rx q1
        obtain ⟨v, hv2, rv⟩ := ra.atI q2
        exact .inl ⟨p, vs, _, v, rfl, ry.int_inv, SqL.of hv, hv2, k.now g rv⟩
      · cases hf
    · rename_i q1
      split at hf
      · rename_i q2; cases hf
        refine .inl (run fun ι H x y g rx ry k => ?_)
        obtain ⟨p, rfl, hv⟩ := rx.seeC q1
        exact .inl ⟨p, _, _, _, rfl, ry.int_inv, hv.sql, atI_map q2, k.now g (.int _)⟩
      · cases hf
    · rename_i q1
      split at hf
      · rename_i q2; cases hf
        refine .inr (run fun ι H x y g rx ry k => ?_)
        obtain ⟨key, hk, q2⟩ := Option.bind_eq_some_iff.mp q2
        obtain ⟨p, kvs, rfl, hv, hks, ra⟩ := g.seeD rx q1
        obtain ⟨v, hv2, rv⟩ := look_some hks ra q2
        rw [keyOf_kV ry hk]
        exact ⟨p, v, rfl, by rw [← hv2]; exact DGet.k hv, k.now g rv⟩
      · cases hf
    · rename_i q1
      split at hf
      · rename_i q3
        split at hf
        · rename_i q2; cases hf
          refine .inl (run fun ι H x y g rx ry k => ?_)
          exact .inr (.inr ⟨_, _, _, rx.seeS q1, ry.int_inv, q3, q2, k.now g (.str _)⟩)
        · cases hf
      · cases hf
    · cases hf
/-! ### a[b:c] -/
abbrev Pt := Rho → LH → Res (Option Int)
def pNone : Pt := fun _ L => .ok none L
def pInt : D → LH → Res (Option Int)
  | .int i, L => .ok (some i) L
  | _, _ => .bad
def pE (a : Ex) : Pt := fun ρ L => (a ρ L).bind pInt
def wO (W : Wd) (f : Pt) : TO := fun σ H Q => ∃ ι L ρ, Sa W ι L H σ ρ ∧ ∃ x L', f ρ L = .ok x L' ∧ ∀ ι' H', Le ι L H ι' L' H' → Good W ι' L' H' → Q x H'
abbrev PDO (X : Cx) (e : Option Expr) (f : Pt) : Prop := PO X e (wO X.wd f)
theorem _root_.L2.PO.cq {e : Option Expr} {t t' : TO} (h : PO X e t) (k : ∀ σ H Q, t' σ H Q → t σ H Q) : PO X e t' := ⟨fun pins s σ H Q I q => h.run pins s σ H Q I (k σ H Q q)⟩
theorem pdo_none : PDO X none pNone := po_none.cq fun σ H Q ⟨ι, L, ρ, s, d, L', hf, k⟩ => by
  cases hf; exact k ι H .refl s.g
theorem pdo_some (ha : PD X a fa) : PDO X (some a) (pE fa) := (po_some ha).cq fun σ H Q ⟨ι, L, ρ, s, d, L', hf, k⟩ => by
  obtain ⟨dx, L1, h1, hf⟩ := bind_inv hf
  cases dx <;> first | (cases hf; done) | skip
  cases hf
  exact ⟨ι, L, ρ, s, _, _, h1, fun v ι1 H1 le g r => ⟨_, r.int_inv, k ι1 H1 le g⟩⟩
def cut {α : Type} (xs : List α) (lo hi : Option Int) : List α := (xs.drop (HT.sIx xs.length 0 lo)).take (HT.sIx xs.length xs.length hi - HT.sIx xs.length 0 lo)
theorem RpA.cut {W : Wd} {ι : Io} {lv : Addr → Prop} {H : Hp} {vs : List V} {xs : List D} (r : RpA W ι lv H vs xs) (lo hi : Option Int) : RpA W ι lv H (cutV vs lo hi) (Cz.cut xs lo hi) := by
  unfold cutV Cz.cut
  rw [r.length]
  exact (r.drop _).take _
theorem RpA.ints {W : Wd} {ι : Io} {lv : Addr → Prop} {H : Hp} : ∀ xs : List Int, RpA W ι lv H (xs.map V.int) (xs.map D.int)
  | [] => .nil
  | x :: xs => .cons (.int x) (RpA.ints xs)
theorem cut_map (xs : List Int) (lo hi : Option Int) : cutV (xs.map V.int) lo hi = (cut xs lo hi).map V.int := by
  unfold cutV cut; simp [List.map_take, List.map_drop]
def slD (x : D) (lo hi : Option Int) (L : LH) : Res D := match deref L x with
  | .lst xs => .ok (.lst (cut xs lo hi)) L
  | .scr xs => .ok (.lst ((cut xs lo hi).map .int)) L
  | .tup xs => if HT.sIx xs.length 0 lo = 0 ∧ HT.sIx xs.length xs.length hi = xs.length then .bad else .ok (.tup (cut xs lo hi)) L
  | .str z => if z.length ≤ sz then .ok (.str (cutS z lo hi)) L else .bad
  | _ => .bad
def eSl (a : Ex) (lo hi : Pt) : Ex := fun ρ L => (a ρ L).bind fun x L => (lo ρ L).bind fun l L => (hi ρ L).bind fun h L => slD x l h L
theorem pd_sl {lo hi : Option Expr} {fl fh : Pt} {p2 : Pos} (ha : PD X a fa) (hl : PDO X lo fl) (hh : PDO X hi fh) : PD X (.Subscript a (.Slice lo hi none p2) pos) (eSl fa fl fh) :=
  (pe_slice (sl_list.or (sl_tup.or sl_str)) ha hl hh).cq fun σ H Q ⟨ι, L, ρ, s, d, L', hf, k⟩ => by
    obtain ⟨dx, L1, h1, hf⟩ := bind_inv hf
    obtain ⟨l, L2', h2, hf⟩ := bind_inv hf
    obtain ⟨h, L3, h3, hf⟩ := bind_inv hf
    refine ⟨ι, L, ρ, s, dx, L1, h1, fun x ι1 H1 le1 g1 r1 => ⟨ι1, L1, ρ, s.next le1 g1, l, L2', h2, fun ι2 H2 le2 g2 => ⟨ι2, L2', ρ, (s.next le1 g1).next le2 g2, h, L3, h3, fun ι3 H3 le3 g3 => ?_⟩⟩⟩
    have rx := (r1.mono g1 le2).mono g2 le3
    have k3 := Af.after ((le1.trans le2).trans le3) k
    unfold slD at hf
    split at hf
    · rename_i q1; cases hf
      obtain ⟨p, vs, rfl, hv, ra⟩ := g3.seeL rx q1
      refine .inl ⟨p, vs, rfl, SqL.of hv, fun q hq => ?_⟩
      obtain ⟨g4, le4, r4⟩ := g3.newLst (ra.cut l h) hq
      exact k3 _ ι3 _ le4 g4 r4
    · rename_i q1; cases hf
      obtain ⟨p, rfl, hv⟩ := rx.seeC q1
      refine .inl ⟨p, _, rfl, hv.sql, fun q hq => ?_⟩
      rw [cut_map]
      obtain ⟨g4, le4, r4⟩ := g3.newLst (RpA.ints _) hq
      exact k3 _ ι3 _ le4 g4 r4
    · rename_i q1
      split at hf
      · cases hf
      · rename_i q2; cases hf
        obtain ⟨p, vs, rfl, hv, ra⟩ := rx.seeT q1
        refine .inr (.inl ⟨p, vs, rfl, hv, by rw [ra.length]; exact q2, fun q hq => ?_⟩)
        obtain ⟨g4, le4, r4⟩ := g3.newTup (ra.cut l h) hq
        exact k3 _ ι3 _ le4 g4 r4
    · rename_i q1
      obtain ⟨q2, hf⟩ := if_inv hf
      cases hf
      exact .inr (.inr ⟨_, rx.seeS q1, q2, k3.now g3 (.str _)⟩)
    · cases hf
/-- xs[::-1] of a list -/
def revD (x : D) (L : LH) : Res D := match deref L x with
  | .lst xs => .ok (.lst xs.reverse) L
  | _ => .bad
theorem pd_rev {k : Nat} {p1 p2 p3 : Pos} (ha : PD X a fa) : PD X (.Subscript a (.Slice none none (some (.UnaryOp .USub (.Constant (.int 1) k p1) p2)) p3) pos) (e1 revD fa) :=
  (pe_revL ha).cq fun σ H Q q => one q fun ι L H x dx d L' g rx hf k => by
    unfold revD at hf
    split at hf
    · rename_i q1; cases hf
      obtain ⟨p, vs, rfl, hv, ra⟩ := g.seeL rx q1
      refine ⟨p, vs, rfl, SqL.of hv, fun q hq => ?_⟩
      obtain ⟨g4, le4, r4⟩ := g.newLst ra.reverse hq
      exact k _ ι _ le4 g4 r4
    · cases hf
/-! ### calls -/
/-- a call by values -/
def wC (W : Wd) (g : List D → LH → Res D) : List V → Hp → VK → Prop := fun xs H Q => ∃ ι L ds d L', Good W ι L H ∧ RpA W ι (Lv ι L) H xs ds ∧ g ds L = .ok d L' ∧ Af W ι L H d L' Q
abbrev OpC (X : Cx) (f : Value) (g : List D → LH → Res D) : Prop := CallR X f (wC X.wd g)
theorem _root_.L2.CallR.cq {f : Value} {r r' : List V → Hp → VK → Prop} (h : CallR X f r) (k : ∀ xs H Q, r' xs H Q → r xs H Q) : CallR X f r' :=
  fun pins s σ H xs us Q I rv q => h pins s σ H xs us Q I rv (k xs H Q q)
theorem args {W : Wd} {g : List D → LH → Res D} {σ : L2.St} {H : Hp} {Q : VK} (q : wE W (eCall g fs) σ H Q) : wA W (eArgs fs) σ H fun vs H1 => wC W g vs H1 Q := by
  obtain ⟨ι, L, ρ, s, d, L', hf, k⟩ := q
  obtain ⟨ds, L1, h1, hf⟩ := bind_inv hf
  exact ⟨ι, L, ρ, s, ds, L1, h1, fun vs ι1 H1 le g r => ⟨ι1, L1, ds, d, L', g, r, hf, Af.after le k⟩⟩
theorem pd_callB {id : String} {x : Str} {p : Pos} {g : List D → LH → Res D} (hc : OpC X (.builtin id) g) (hm : X.mg x = none) (hv : bootBuiltins x = some (.builtin id)) (ha : PDA X (e :: es) fs) (hg : Gl X x := by rfl) (hn : x ≠ "__name__" := by decide) (hdb : (x == ("__debug__" : Str)) = false := by decide)
    (he : starEach (e :: es) X.env = (false, eval e X.env) :: starEach es X.env := by rfl) (hpl : (backTo pos (starEach es X.env)).any (·.1) = false := by rfl) : PD X (.Call (.Name x p) (e :: es) [] pos) (eCall g fs) :=
  (pe_callB hc hg hm hv ha hn hdb he hpl).cq fun σ H Q q => args q
theorem pd_callT {T : String} {x : Str} {p : Pos} {g : List D → LH → Res D} (hc : OpC X (.type T) g) (hm : X.mg x = none) (hv : bootBuiltins x = some (.type T)) (ha : PDA X (e :: es) fs) (hg : Gl X x := by rfl) (hn : x ≠ "__name__" := by decide) (hdb : (x == ("__debug__" : Str)) = false := by decide)
    (he : starEach (e :: es) X.env = (false, eval e X.env) :: starEach es X.env := by rfl) (hpl : (backTo pos (starEach es X.env)).any (·.1) = false := by rfl) : PD X (.Call (.Name x p) (e :: es) [] pos) (eCall g fs) :=
  (pe_callTy hc hg hm hv ha hn hdb he hpl).cq fun σ H Q q => args q
theorem RpA.inv1 {W : Wd} {ι : Io} {lv : Addr → Prop} {H : Hp} {vs : List V} {d : D} (r : RpA W ι lv H vs [d]) : ∃ v, vs = [v] ∧ Rp W ι lv H v d := by
  cases r with | cons q r => cases r; exact ⟨_, rfl, q⟩
theorem RpA.inv2 {W : Wd} {ι : Io} {lv : Addr → Prop} {H : Hp} {vs : List V} {d d2 : D} (r : RpA W ι lv H vs [d, d2]) : ∃ v v2, vs = [v, v2] ∧ Rp W ι lv H v d ∧ Rp W ι lv H v2 d2 := by
  cases r with | cons q r => cases r with | cons q2 r => cases r; exact ⟨_, _, rfl, q, q2⟩
def f1 (g : D → LH → Res D) : List D → LH → Res D
  | [x], L => g x L
  | _, _ => .bad
def f2 (g : D → D → LH → Res D) : List D → LH → Res D
  | [x, y], L => g x y L
  | _, _ => .bad
theorem f1_inv {g : D → LH → Res D} {ds : List D} {L L' : LH} {d : D} (h : f1 g ds L = .ok d L') : ∃ x, ds = [x] ∧ g x L = .ok d L' := by
  unfold f1 at h; split at h
  · exact ⟨_, rfl, h⟩
  · cases h
theorem f2_inv {g : D → D → LH → Res D} {ds : List D} {L L' : LH} {d : D} (h : f2 g ds L = .ok d L') : ∃ x y, ds = [x, y] ∧ g x y L = .ok d L' := by
  unfold f2 at h; split at h
  · exact ⟨_, _, rfl, h⟩
  · cases h
theorem oc_len : OpC X (.builtin "len") (f1 lenD) := (call_len.or call_lenD).cq fun xs H Q ⟨ι, L, ds, d, L', g, rr, hf, k⟩ => by
  obtain ⟨x, ex, hg⟩ := f1_inv hf
  subst ex
  clear hf
  obtain ⟨v, ev, r⟩ := rr.inv1
  subst ev
  clear rr
  unfold lenD at hg
  revert hg
  intro hf
  split at hf
  · rename_i q1; cases hf
    obtain ⟨p, vs, rfl, hv, ra⟩ := r.seeT q1
    exact .inl ⟨_, _, rfl, .inr ⟨_, hv, rfl⟩, by rw [ra.length]; exact k.now g (.int _)⟩
  · rename_i q1; cases hf
    obtain ⟨p, vs, rfl, hv, ra⟩ := g.seeL r q1
    exact .inl ⟨_, _, rfl, .inl ⟨_, SqL.of hv, rfl⟩, by rw [ra.length]; exact k.now g (.int _)⟩
  · rename_i q1; cases hf
    obtain ⟨p, rfl, hv⟩ := r.seeC q1
    exact .inl ⟨_, _, rfl, .inl ⟨_, hv.sql, rfl⟩, by rw [List.length_map]; exact k.now g (.int _)⟩
  · rename_i q1; cases hf
    obtain ⟨p, kvs, rfl, hv, hk, ra⟩ := g.seeD r q1
    refine .inr ⟨_, _, rfl, hv, ?_⟩
    have e : kvs.length = (kvs.map (·.1)).length := by simp
    rw [e, hk]
    exact k.now g (.int _)
  · rename_i q1
    obtain ⟨q2, hf⟩ := if_inv hf
    cases hf
    exact .inl ⟨_, _, rfl, (show LenV X.wd.K v H _ by rw [r.seeS q1]; exact ⟨q2, rfl⟩), k.now g (.int _)⟩
  · cases hf
/-! ### isinstance -/
inductive Ty where
  | non | bl | int | str | lst | tup | dct
  deriving DecidableEq
def Ty.nm : Ty → String
  | .non => "NoneType" | .bl => "bool" | .int => "int" | .str => "str" | .lst => "list" | .tup => "tuple" | .dct => "dict"
def tyD (L : LH) (x : D) : Option Ty := match deref L x with
  | .non => some .non | .bl _ => some .bl | .int _ => some .int | .str _ => some .str | .lst _ => some .lst | .scr _ => some .lst | .tup _ => some .tup | .dct _ _ => some .dct
  | _ => none
def isA (a b : Ty) : Bool := a == b || (a == .bl && b == .int)
theorem isA_ok {K : PySem.W.Frag} {a b : Ty} (h : b ≠ .non) : PySem.W.kitOne K (.type a.nm) (.type b.nm) = some (isA a b) := by
  cases b <;> first | (exact absurd rfl h) | skip
  all_goals (cases a <;> exact kit_ty (by decide +kernel))
theorem tyX_of {W : Wd} {ι : Io} {L : LH} {H : Hp} {v : V} {x : D} {t : Ty} (g : Good W ι L H) (r : Rp W ι (Lv ι L) H v x) (h : tyD L x = some t) : TyX W.K H v (.type t.nm) := by
  unfold tyD at h
  split at h <;> first | (cases h; done) | skip
  all_goals rename_i q1
  all_goals cases h
  · rw [r.seeN q1]; exact .base .non
  · rw [r.seeB q1]; exact .base (.bl _)
  · rw [r.seeI q1]; exact .base (.int _)
  · rw [r.seeS q1]; exact .base (.str _)
  · obtain ⟨p, vs, rfl, hv, _⟩ := g.seeL r q1; exact .base (.lst hv)
  · obtain ⟨p, rfl, hv⟩ := r.seeC q1; exact hv.ty
  · obtain ⟨p, vs, rfl, hv, _⟩ := r.seeT q1
    rcases hv with (hv | ⟨ob, hv⟩) | ⟨ob, its, n, hl, hc, _⟩
    · exact .base (.tup hv)
    · exact .fTuple hv
    · exact .kTuple hl hc
  · obtain ⟨p, kvs, rfl, hv, _⟩ := g.seeD r q1; exact .base (.dK hv)
def isiD (t : Ty) (x y : D) (L : LH) : Res D := match y with
  | .ty n => if n = t.nm ∧ t ≠ .non then (match tyD L x with
    | some a => .ok (.bl (isA a t)) L
    | none => .bad) else .bad
  | _ => .bad
theorem oc_isi (t : Ty) : OpC X (.builtin "isinstance") (f2 (isiD t)) := call_isi.cq fun xs H Q ⟨ι, L, ds, d, L', g, rr, hf, k⟩ => by
  obtain ⟨x, y, ex, hg⟩ := f2_inv hf
  subst ex
  clear hf
  obtain ⟨v, v2, ev, r, r2⟩ := rr.inv2
  subst ev
  clear rr
  unfold isiD at hg
  revert hg
  intro hf
  split at hf
  · obtain ⟨⟨rfl, hn⟩, h2⟩ := if_inv hf
    clear hf
    split at h2
    · rename_i a q1; cases h2
      cases r2
      exact ⟨v, _, _, _, _, rfl, .ty _, tyX_of g r q1, isA_ok hn, k.now g (.bl _)⟩
    · cases h2
  · cases hf
/-! ### list, tuple, all, sum, int, abs, min, max, divmod -/
def seqD (L : LH) (x : D) : Option (List D) := match deref L x with
  | .lst xs => some xs
  | .tup xs => some xs
  | .scr xs => some (xs.map .int)
  | _ => none
def lstF (x : D) (L : LH) : Res D := match seqD L x with
  | some xs => .ok (.lst xs) L
  | none => .bad
/-- a list that may be changed -/
def lstN (x : D) (L : LH) : Res D := match seqD L x with
  | some xs => .ok (.ref L.length) (L ++ [some (.lst xs)])
  | none => .bad
theorem Good.seeQ {W : Wd} {ι : Io} {L : LH} {H : Hp} {v : V} {x : D} (g : Good W ι L H) (r : Rp W ι (Lv ι L) H v x) {xs : List D} (h : seqD L x = some xs) : ∃ a vs, v = .ref a ∧ (SqL W.K H a vs ∨ SqT W.K H a vs) ∧ RpA W ι (Lv ι L) H vs xs := by
  unfold seqD at h
  split at h <;> first | (cases h; done) | skip
  all_goals rename_i q1
  all_goals cases h
  · obtain ⟨p, vs, rfl, hv, ra⟩ := g.seeL r q1; exact ⟨p, vs, rfl, .inl (SqL.of hv), ra⟩
  · obtain ⟨p, vs, rfl, hv, ra⟩ := r.seeT q1; exact ⟨p, vs, rfl, .inr hv, ra⟩
  · obtain ⟨p, rfl, hv⟩ := r.seeC q1; exact ⟨p, _, rfl, .inl hv.sql, RpA.ints _⟩
theorem oc_lstF : OpC X (.type "list") (f1 lstF) := call_list_of.cq fun xs H Q ⟨ι, L, ds, d, L', g, rr, hf, k⟩ => by
  obtain ⟨x, ex, hg⟩ := f1_inv hf
  subst ex
  clear hf
  obtain ⟨v, ev, r⟩ := rr.inv1
  subst ev
  clear rr
  unfold lstF at hg
  revert hg
  intro hf
  split at hf
  · rename_i q1; cases hf
    obtain ⟨a, vs, rfl, hv, ra⟩ := g.seeQ r q1
    refine ⟨a, vs, rfl, hv, fun q hq => ?_⟩
    obtain ⟨g4, le4, r4⟩ := g.newLst ra hq
    exact k _ ι _ le4 g4 r4
  · cases hf
theorem oc_lstN : OpC X (.type "list") (f1 lstN) := call_list_of.cq fun xs H Q ⟨ι, L, ds, d, L', g, rr, hf, k⟩ => by
  obtain ⟨x, ex, hg⟩ := f1_inv hf
  subst ex
  clear hf
  obtain ⟨v, ev, r⟩ := rr.inv1
  subst ev
  clear rr
  unfold lstN at hg
  revert hg
  intro hf
  split at hf
  · rename_i q1; cases hf
    obtain ⟨a, vs, rfl, hv, ra⟩ := g.seeQ r q1
    refine ⟨a, vs, rfl, hv, fun q hq => ?_⟩
    obtain ⟨g4, le4, r4⟩ := g.trkLst ra hq
    exact k _ _ _ le4 g4 r4
  · cases hf
def tupF (x : D) (L : LH) : Res D := match deref L x with
  | .lst xs => .ok (.tup xs) L
  | .tup xs => .ok (.tup xs) L
  | _ => .bad
theorem oc_tup : OpC X (.type "tuple") (f1 tupF) := call_tuple_of.cq fun xs H Q ⟨ι, L, ds, d, L', g, rr, hf, k⟩ => by
  obtain ⟨x, ex, hg⟩ := f1_inv hf
  subst ex
  clear hf
  obtain ⟨v, ev, r⟩ := rr.inv1
  subst ev
  clear rr
  unfold tupF at hg
  revert hg
  intro hf
  split at hf
  · rename_i q1; cases hf
    obtain ⟨p, vs, rfl, hv, ra⟩ := g.seeL r q1
    refine ⟨p, vs, rfl, .inl ⟨SqL.of hv, fun q hq => ?_⟩⟩
    obtain ⟨g4, le4, r4⟩ := g.newTup ra hq
    exact k _ ι _ le4 g4 r4
  · rename_i q1; cases hf
    obtain ⟨p, vs, rfl, hv, ra⟩ := r.seeT q1
    exact ⟨p, vs, rfl, .inr ⟨hv, k.now g (.tup hv ra)⟩⟩
  · cases hf
def blsD : List D → Option (List Bool)
  | [] => some []
  | .bl b :: xs => (blsD xs).map (b :: ·)
  | _ => none
def intsD : List D → Option (List Int)
  | [] => some []
  | .int b :: xs => (intsD xs).map (b :: ·)
  | _ => none
theorem RpA.bls {W : Wd} {ι : Io} {lv : Addr → Prop} {H : Hp} : ∀ {vs : List V} {xs : List D} {bs : List Bool}, RpA W ι lv H vs xs → blsD xs = some bs → vs = bs.map V.bl
  | _, _, _, .nil, h => by simp [blsD] at h; subst h; rfl
  | _, _, _, .cons (d := d) q r, h => by
    cases d <;> first | (simp [blsD] at h; done) | skip
    simp only [blsD] at h
    obtain ⟨bs', h1, h2⟩ := Option.map_eq_some_iff.mp h
    subst h2
    rw [q.bl_inv, RpA.bls r h1]; rfl
theorem RpA.intsV {W : Wd} {ι : Io} {lv : Addr → Prop} {H : Hp} : ∀ {vs : List V} {xs : List D} {bs : List Int}, RpA W ι lv H vs xs → intsD xs = some bs → vs = bs.map V.int
  | _, _, _, .nil, h => by simp [intsD] at h; subst h; rfl
  | _, _, _, .cons (d := d) q r, h => by
    cases d <;> first | (simp [intsD] at h; done) | skip
    simp only [intsD] at h
    obtain ⟨bs', h1, h2⟩ := Option.map_eq_some_iff.mp h
    subst h2
    rw [q.int_inv, RpA.intsV r h1]; rfl
def allD (x : D) (L : LH) : Res D := match deref L x with
  | .lst xs => match blsD xs with
    | some bs => .ok (.bl (bs.all id)) L
    | none => .bad
  | _ => .bad
def sumD (x : D) (L : LH) : Res D := match deref L x with
  | .lst xs => match intsD xs with
    | some bs => .ok (.int bs.sum) L
    | none => .bad
  | _ => .bad
theorem oc_all (hc : X.calm = true) : OpC X (.builtin "all") (f1 allD) := (cr_all hc).cq fun xs H Q ⟨ι, L, ds, d, L', g, rr, hf, k⟩ => by
  obtain ⟨x, ex, hg⟩ := f1_inv hf
  subst ex
  clear hf
  obtain ⟨v, ev, r⟩ := rr.inv1
  subst ev
  clear rr
  unfold allD at hg
  revert hg
  intro hf
  split at hf
  · rename_i q1
    split at hf
    · rename_i q2; cases hf
      obtain ⟨p, vs, rfl, hv, ra⟩ := g.seeL r q1
      have e := ra.bls q2
      subst e
      exact ⟨p, _, rfl, SqL.of hv, k.now g (.bl _)⟩
    · cases hf
  · cases hf
theorem oc_sum (hc : X.calm = true) : OpC X (.builtin "sum") (f1 sumD) := (cr_sum hc).cq fun xs H Q ⟨ι, L, ds, d, L', g, rr, hf, k⟩ => by
  obtain ⟨x, ex, hg⟩ := f1_inv hf
  subst ex
  clear hf
  obtain ⟨v, ev, r⟩ := rr.inv1
  subst ev
  clear rr
  unfold sumD at hg
  revert hg
  intro hf
  split at hf
  · rename_i q1
    split at hf
    · rename_i q2; cases hf
      obtain ⟨p, vs, rfl, hv, ra⟩ := g.seeL r q1
      have e := ra.intsV q2
      subst e
      exact ⟨p, _, rfl, SqL.of hv, k.now g (.int _)⟩
    · cases hf
  · cases hf
def absD (x : D) (L : LH) : Res D := match x with
  | .int i => .ok (.int (if i < 0 then -i else i)) L
  | _ => .bad
def intF (x : D) (L : LH) : Res D := match x with
  | .int i => .ok (.int i) L
  | .bl k => .ok (.int (if k then 1 else 0)) L
  | _ => .bad
def maxD (x y : D) (L : LH) : Res D := match x, y with
  | .int i, .int j => .ok (.int (if j > i then j else i)) L
  | _, _ => .bad
def minD (x y : D) (L : LH) : Res D := match x, y with
  | .int i, .int j => .ok (.int (if j < i then j else i)) L
  | _, _ => .bad
theorem oc_abs : OpC X (.builtin "abs") (f1 absD) := call_abs.cq fun xs H Q ⟨ι, L, ds, d, L', g, rr, hf, k⟩ => by
  obtain ⟨x, ex, hg⟩ := f1_inv hf
  subst ex
  clear hf
  obtain ⟨v, ev, r⟩ := rr.inv1
  subst ev
  clear rr
  unfold absD at hg
  revert hg
  intro hf
  split at hf
  · cases hf; exact ⟨_, by rw [r.int_inv], k.now g (.int _)⟩
  · cases hf
theorem oc_int : OpC X (.type "int") (f1 intF) := call_int1.cq fun xs H Q ⟨ι, L, ds, d, L', g, rr, hf, k⟩ => by
  obtain ⟨x, ex, hg⟩ := f1_inv hf
  subst ex
  clear hf
  obtain ⟨v, ev, r⟩ := rr.inv1
  subst ev
  clear rr
  unfold intF at hg
  revert hg
  intro hf
  split at hf
  · cases hf; exact .inl ⟨_, by rw [r.int_inv], k.now g (.int _)⟩
  · cases hf; exact .inr ⟨_, by rw [r.bl_inv], k.now g (.int _)⟩
  · cases hf
theorem oc_max (hc : X.calm = true) : OpC X (.builtin "max") (f2 maxD) := (call_max2 hc).cq fun xs H Q ⟨ι, L, ds, d, L', g, rr, hf, k⟩ => by
  obtain ⟨x, y, ex, hg⟩ := f2_inv hf
  subst ex
  clear hf
  obtain ⟨v, v2, ev, r, r2⟩ := rr.inv2
  subst ev
  clear rr
  unfold maxD at hg
  revert hg
  intro hf
  split at hf
  · cases hf; exact ⟨_, _, by rw [r.int_inv, r2.int_inv], k.now g (.int _)⟩
  · cases hf
theorem oc_min (hc : X.calm = true) : OpC X (.builtin "min") (f2 minD) := (call_min2 hc).cq fun xs H Q ⟨ι, L, ds, d, L', g, rr, hf, k⟩ => by
  obtain ⟨x, y, ex, hg⟩ := f2_inv hf
  subst ex
  clear hf
  obtain ⟨v, v2, ev, r, r2⟩ := rr.inv2
  subst ev
  clear rr
  unfold minD at hg
  revert hg
  intro hf
  split at hf
  · cases hf; exact ⟨_, _, by rw [r.int_inv, r2.int_inv], k.now g (.int _)⟩
  · cases hf
end
end Cz
set_option linter.all false
set_option autoImplicit false
set_option maxRecDepth 100000
/-! The data layer: calls of defs (with the guards told, so that repr may be asked), stores into lists, names of the module, dict displays, repr. -/
namespace Cz
open PySem PySem.Spec PyProof.Rows L2
abbrev CN : CXT := fun _ _ _ _ _ _ => False
abbrev EN : XK := fun _ _ _ => False
abbrev SpG := List V → Hp → VK → Prop
/-- what a def promises where no repr is going on -/
structure FnG (P : Program) (w : World) (K : PySem.W.Frag) (mg : Str → Option Value) (base : Heap) (k : Nat) (f : Addr) (fd : FuncData) (ps : List Str) (sp : SpG) : Prop where
  len : ∀ vs H Q, sp vs H Q → vs.length = ps.length
  run : ∀ (A : Around) (outer : List Env) (s : Shared) (H : Hp) (args : Args) (us : List Value) (vs : List V) (Q : VK), Room k A → A.guards = some [] → Env0 P w K mg base A outer s H → BindsTo s fd args (ps.zip us) → Vals vs us → sp vs H Q →
    codeAny (model P w) A (.call (.ref f) args) (CR CN outer P w H s Q EN) s
theorem FnG.mono {P : Program} {w : World} {K : PySem.W.Frag} {mg : Str → Option Value} {base : Heap} {j k : Nat} {f : Addr} {fd : FuncData} {ps : List Str} {sp : SpG} (F : FnG P w K mg base j f fd ps sp) (h : j ≤ k) : FnG P w K mg base k f fd ps sp :=
  ⟨F.len, fun A outer s H args us vs Q hr => F.run A outer s H args us vs Q (hr.mono h)⟩
theorem deeper_guards {A : Around} {env : Env} : (A.deeper env).guards = A.guards := rfl
/-- by its body -/
theorem fnG_of {P : Program} {w : World} {K : PySem.W.Frag} {mg : Str → Option Value} {base : Heap} {k : Nat} {f : Addr} {x qual : Str} {params : Arguments} {body : List Stmt} {scope : Scope} {kws : List (Str × V)} {fd : FuncData} {N ps : List Str} {sp : SpG}
    (F : FunD K x qual params body scope [] kws f fd) (S : FnScope N ps scope) (len : ∀ vs H Q, sp vs H Q → vs.length = ps.length)
    (hbody : ∀ (cdv : Value) (A : Around) (outer : List Env) (s : Shared) (H : Hp) (vs : List V) (Q : VK), Room k (A.deeper (envOfC qual scope s.heap.objs.size f cdv)) → A.guards = some [] → sp vs H Q →
      ∃ t, PSs (cxOf CN P w K mg base N qual scope f cdv A outer s H EN) body t ∧ t { nx := fun _ H' => Q .non H', rt := Q } (start N vs) H) : FnG P w K mg base (k + 1) f fd ps sp := by
  obtain ⟨oc, od, dV, kV, doc, pm, an, cdv, ct, osl, rfl, lk, hcd, _, _⟩ := F.ex
  refine ⟨len, fun A outer s H args us vs Q hr hg e0 hb r hsp => ?_⟩
  have KX : K.In s.heap := e0.mod.kin.keeps fun b o e => (e0.bs b o e).1
  refine codeAny_call_function hr.depth (KX _ _ lk) rfl S.co S.gen rfl (PySem.W.codeRec_of KX hcd) (hb _ _ _ _ ?_)
  refine wpAny_newFunctionEnv_cells S.kind (fun y hy => (S.par y.1 (List.of_mem_zip hy).1).imp id fun q => ⟨q, PySem.W.cellsFrom_some _ _ _ (.inl q)⟩) fun env he s1 x => ?_
  subst he
  refine ⟨(e0.mod.nolimit.keeps fun b o e => (e0.bs b o e).1).keeps x.toInCall.keep, codeAny_func ?_⟩
  obtain ⟨t, ht, hq⟩ := hbody cdv A outer s H vs Q (hr.deeper _) hg hsp
  refine wpAny_mono (ht.run [] s1 (start N vs) H _ (inv_start S hr.hd e0 (len _ _ _ hsp) r x) hq) (fun fl s' hs => ?_) fun e s' hs => hs
  cases fl with
  | ret u =>
    obtain ⟨v, σ', H', J, rv, q⟩ := hs
    exact ⟨v, H', J.os, J.bare, J.base, J.hok, rv, q⟩
  | next =>
    obtain ⟨σ', H', J, q⟩ := hs
    exact ⟨V.non, H', J.os, J.bare, J.base, J.hok, rfl, q⟩
  | brk =>
    obtain ⟨_, _, _, q⟩ := hs
    exact False.elim q
  | cont =>
    obtain ⟨_, _, _, q⟩ := hs
    exact False.elim q
section
variable {X : Cx} {k j : Nat} {f : Addr} {fd : FuncData} {ps : List Str} {sp : SpG} {x : Str} {p pos : Pos} {e : Expr} {es : List Expr} {fs : List Ex} {F : Fu}
theorem runG {pins : List (Addr × Obj)} {σ : L2.St} {H : Hp} {s : Shared} {Q : VK} {us : List Value} {vs : List V} {kw : List (Str × Value)} (F : FnG X.prog X.w X.K X.mg X.base k f fd ps sp) (hr : Room k X.A) (hg : X.A.guards = some []) (I : Inv X pins σ H s)
    (hb : BindsTo s fd ⟨us, kw⟩ (ps.zip (us ++ kw.map (·.2)))) (r : Vals vs (us ++ kw.map (·.2))) (h : sp vs H Q) : wpAny (model X.prog X.w) X.A (call (.ref f) us kw) (EP X pins σ Q) X.xe s := by
  refine wpAny_call (codeAny_mono (F.run X.A X.stack s H ⟨us, kw⟩ _ vs Q hr hg I.env0 hb r h) fun r s' hq => ?_)
  cases r with
  | error e => exact False.elim hq
  | ok fl =>
    cases fl with
    | ret u => exact I.after hq
    | next => exact False.elim hq
    | brk => exact False.elim hq
    | cont => exact False.elim hq
/-- the promise of a meaning -/
def spD (W : Wd) (n : Nat) (F : Fu) : SpG := fun vs H Q => vs.length = n ∧ wC W F vs H Q
/-- a def of the module: its name, its parameters, its meaning -/
structure FnD (P : Program) (w : World) (K : PySem.W.Frag) (mg : Str → Option Value) (base : Heap) (k : Nat) (x : Str) (n : Nat) (F : Fu) : Prop where
  ex : ∃ (f : Addr) (fd : FuncData) (ps : List Str), ps.length = n ∧ mg x = some (.ref f) ∧ PySem.W.keepIn K (.ref f) = true ∧ FnG P w K mg base k f fd ps (spD ⟨K, mg⟩ n F) ∧ Binds K fd ps []
  ar : ∀ ds L d L', F ds L = .ok d L' → ds.length = n
theorem FnD.mono {P : Program} {w : World} {K : PySem.W.Frag} {mg : Str → Option Value} {base : Heap} {n : Nat} (c : FnD P w K mg base k x n F) (h : k ≤ j) : FnD P w K mg base j x n F :=
  ⟨let ⟨f, fd, ps, h1, h2, h3, h4, h5⟩ := c.ex; ⟨f, fd, ps, h1, h2, h3, h4.mono h, h5⟩, c.ar⟩
theorem pd_call {n : Nat} (c : FnD X.prog X.w X.K X.mg X.base k x n F) (hr : Room k X.A) (hg : X.A.guards = some []) (ha : PDA X (e :: es) fs) (hl : Gl X x := by rfl)
    (hdb : (x == ("__debug__" : Str)) = false := by decide) (he : starEach (e :: es) X.env = (false, eval e X.env) :: starEach es X.env := by rfl) (hpl : (backTo pos (starEach es X.env)).any (·.1) = false := by rfl) :
    PD X (.Call (.Name x p) (e :: es) [] pos) (eCall F fs) := by
  obtain ⟨f, fd, ps, hn, hm, kp, G, b⟩ := c.ex
  refine ⟨fun pins s σ H Q I h => ?_⟩
  refine wpAny_Call_Name_kw (ld_glob I hl hm ?_ hdb)
  refine PySem.W.callWith_K (h₀ := X.base) I.ok.mod.kin kp (thn (ha.run pos pins s σ H _ I (args h)) fun us s1 ⟨vs, H1, I1, r, q⟩ => ⟨I1.kIn, ?_⟩) he hpl
  have lv : vs.length = n := by
    obtain ⟨ι, L, ds, d, L', _, ra, hf, _⟩ := q
    rw [ra.length]; exact c.ar _ _ _ _ hf
  refine runG G hr hg I1 (kw := []) ?_ (by simpa using r) ⟨lv, q⟩
  have lu : us.length = ps.length := by rw [← r.length, lv, hn]
  simpa using b s1 us I1.kIn (by simpa using lu)
theorem pd_call0 (c : FnD X.prog X.w X.K X.mg X.base k x 0 F) (hr : Room k X.A) (hg : X.A.guards = some []) (hl : Gl X x := by rfl)
    (hdb : (x == ("__debug__" : Str)) = false := by decide) : PD X (.Call (.Name x p) [] [] pos) (eCall F []) := by
  obtain ⟨f, fd, ps, hn, hm, kp, G, b⟩ := c.ex
  refine ⟨fun pins s σ H Q I h => ?_⟩
  refine wpAny_Call_Name_kw (ld_glob I hl hm ?_ hdb)
  obtain ⟨ι, L, ρ, sa, d, L', hf, k⟩ := h
  refine PySem.W.callWith_K0 I.kIn kp (runG (us := []) (vs := []) G hr hg I (kw := []) ?_ .nil ⟨rfl, ι, L, [], d, L', sa.g, .nil, hf, k⟩)
  exact b s [] I.kIn (by simpa using hn.symm)
end
/-- a def of the module, by its body's meaning -/
def runP (p n : Nat) (b : Sm) : Fu := fun ds L => if ds.length = p then runD n b ds L else .bad
theorem fnD_of {P : Program} {w : World} {K : PySem.W.Frag} {mg : Str → Option Value} {base : Heap} {k : Nat} {f : Addr} {x : Str} {params : Arguments} {body : List Stmt} {scope : Scope} {fd : FuncData} {N ps : List Str} {m : Sm}
    (F : FunD K x x params body scope [] [] f fd) (hm : mg x = some (.ref f)) (S : FnScope N ps scope) (b : Binds K fd ps [])
    (hbody : ∀ (cdv : Value) (A : Around) (outer : List Env) (s : Shared) (H : Hp), Room k (A.deeper (envOfC x scope s.heap.objs.size f cdv)) → A.guards = some [] → PDSs (cxOf CN P w K mg base N x scope f cdv A outer s H EN) body m) :
    FnD P w K mg base (k + 1) x ps.length (runP ps.length N.length m) := by
  refine ⟨⟨f, fd, ps, rfl, hm, F.kp, fnG_of F S (fun vs H Q h => h.1) fun cdv A outer s H vs Q hr hg h => ?_, b⟩, fun ds L d L' h => (if_inv h).1⟩
  refine ⟨_, hbody cdv A outer s H hr hg, ?_⟩
  obtain ⟨hl, ι, L, ds, d, L', g, ra, hf, k⟩ := h
  obtain ⟨hn, hf⟩ := if_inv hf
  obtain ⟨⟨fl, ρ'⟩, L1, h1, hf⟩ := bind_inv hf
  refine ⟨ι, L, _, ⟨g, RS.start ra N.length N rfl⟩, (fl, ρ'), L1, h1, ?_⟩
  cases fl with
  | nx => cases hf; exact fun σ' ι' H' _ le s => k _ ι' H' le s.g .non
  | rt x => cases hf; exact k
  | bk => cases hf
  | ct => cases hf
end Cz
set_option linter.all false
set_option autoImplicit false
set_option maxRecDepth 100000
/-! The data layer: stores into lists and dicts, names of the module, ranges, dict displays, repr. -/
namespace Cz
open PySem PySem.Spec PyProof.Rows L2
section
variable {X : Cx} {a b e o i : Expr} {es : List Expr} {fa fb fe fo fi : Ex} {fs : List Ex} {pos : Pos}
/-! ### o[i] = v -/
theorem pset_dict (hu : X.A.units + 1 < cLine) : PSet X (fun o i v H Q => ∃ a H', o = .ref a ∧ DPut H a i v H' ∧ Q H') := by
  intro pins s σ H o i v ov iv u Q I ro ri rv h
  obtain ⟨a, H', rfl, g, q⟩ := h
  cases ro
  exact d_setItem hu I g ri rv fun s' J => ⟨H', J, q⟩
theorem psetOr {t t' : TSet} (h : PSet X t) (h' : PSet X t') : PSet X (fun o i v H Q => t o i v H Q ∨ t' o i v H Q) := fun pins s σ H o i v ov iv u Q I ro ri rv q =>
  q.elim (fun q => h pins s σ H o i v ov iv u Q I ro ri rv q) fun q => h' pins s σ H o i v ov iv u Q I ro ri rv q
theorem pdg_sub (hu : X.A.units + 1 < cLine) (ho : PD X o fo) (hi : PD X i fi)
    (ha : ∀ v, assign (.Subscript o i pos) X.env v = (do
      let ov ← holding [v] (eval o X.env)
      let iv ← holding [v, ov] (eval i X.env)
      standAt pos
      holding [v, ov, iv] (setItem ov iv v)
      release [v, ov, iv] []) := by intro _; rfl) : PDG X (.Subscript o i pos) (.sub fo fi) := (pg_sub ho hi (psetOr set_list (pset_dict hu)) ha).cq fun v σ H Q ⟨ι, L, ρ, d, s, r, ρ', L', hp, k⟩ => by
  simp only [Tg.put] at hp
  obtain ⟨x, L1, h1, hp⟩ := bind_inv hp
  obtain ⟨y, L2', h2, hp⟩ := bind_inv hp
  obtain ⟨_, L3, h3, hp⟩ := bind_inv hp
  cases hp
  refine ⟨ι, L, ρ, s, x, L1, h1, fun xv ι1 H1 le1 g1 r1 => ⟨ι1, L1, ρ, s.next le1 g1, y, L2', h2, fun yv ι2 H2 le2 g2 r2 => ?_⟩⟩
  have rx := r1.mono g1 le2
  have rv := (r.mono s.g le1).mono g1 le2
  have fin : ∀ {H3 : Hp}, Le ι2 L2' H2 ι2 L' H3 → Good X.wd ι2 L' H3 → Q σ H3 := fun le g =>
    k σ ι2 _ rfl ((le1.trans le2).trans le) (((s.next le1 g1).next le2 g2).next le g) fun _ _ => rfl
  unfold setIx at h3
  split at h3 <;> first | (cases h3; done) | skip
  split at h3 <;> first | (cases h3; done) | skip
  · rename_i n _ xs hL
    split at h3 <;> first | (cases h3; done) | skip
    split at h3 <;> first | (cases h3; done) | skip
    rename_i kk _ j hj
    cases h3
    obtain ⟨p, hp, vs, hv, ra⟩ := g2.obj _ _ hL
    have ev : xv = .ref p := by cases rx with | ref h => rw [h] at hp; cases hp; rfl
    have ra' := RpA.set rv j ra
    refine .inl ⟨p, vs, kk, j, ev, r2.int_inv, hv, by rw [ra.length]; exact hj, fin (.write g2 hp hL) (g2.write hp hL ⟨_, upd_same, ra'.mono g2 (.write g2 hp hL)⟩)⟩
  · rename_i n _ ks xs hL
    split at h3 <;> first | (cases h3; done) | skip
    rename_i key hk
    obtain ⟨hlt, h3⟩ := if_inv h3
    cases h3
    obtain ⟨p, hp, kvs, hv, hks, ra⟩ := g2.obj _ _ hL
    have ev : xv = .ref p := by cases rx with | ref h => rw [h] at hp; cases hp; rfl
    obtain ⟨hk', ra'⟩ := dput_ok (k := key) rv hks ra
    refine .inr ⟨p, _, ev, by rw [keyOf_kV r2 hk]; exact DPut.k hv (by rw [← List.length_map (f := (·.1)), hks]; exact hlt), fin (.write g2 hp hL) (g2.write hp hL ⟨_, upd_same, hk', ra'.mono g2 (.write g2 hp hL)⟩)⟩
/-! ### names of the module -/
theorem pd_gfn {x : Str} {u : Addr} (hm : X.mg x = some (.ref u)) (hg : Gl X x := by rfl) (hd : (x == ("__debug__" : Str)) = false := by decide) : PD X (.Name x pos) (eC (.fn x)) :=
  pd_c (v := .ref u) (pe_glob hg hm rfl hd) fun _ _ _ => .fn hm
theorem pd_bty {x : Str} {T : String} (hm : X.mg x = none) (hv : bootBuiltins x = some (.type T)) (hg : Gl X x := by rfl) (hn : x ≠ "__name__" := by decide) (hd : (x == ("__debug__" : Str)) = false := by decide) : PD X (.Name x pos) (eC (.ty T)) :=
  pd_c (v := .ty T) (pe_bltn hg hm hv rfl hn hd) fun _ _ _ => .ty T
/-! ### divmod -/
def dmD (x y : D) (L : LH) : Res D := match x, y with
  | .int i, .int j => if 0 < j ∧ j < 1073741824 then .ok (.tup [.int (i / j), .int (i % j)]) L else .bad
  | _, _ => .bad
theorem oc_divmod : OpC X (.builtin "divmod") (f2 dmD) := call_divmodW.cq fun xs H Q ⟨ι, L, ds, d, L', g, rr, hf, k⟩ => by
  obtain ⟨x, y, ex, hg⟩ := f2_inv hf
  subst ex
  clear hf
  obtain ⟨v, v2, ev, r, r2⟩ := rr.inv2
  subst ev
  clear rr
  unfold dmD at hg
  revert hg
  intro hf
  split at hf
  · rename_i i j
    obtain ⟨⟨h0, h1⟩, h2⟩ := if_inv hf
    clear hf
    cases h2
    refine ⟨i, j, by rw [r.int_inv, r2.int_inv], ⟨h0, PyProof.noPylong_small (by omega)⟩, fun p hp => ?_⟩
    obtain ⟨g4, le4, r4⟩ := g.newTup (.cons (.int (i / j)) (.cons (.int (i % j)) .nil)) hp
    exact k _ ι _ le4 g4 r4
  · cases hf
/-! ### range -/
def rgD (lo : Int) (n : Nat) : List D := (List.range n).map fun (i : Nat) => D.int (lo + (i : Int))
def rg1 : D → LH → Res Wk
  | .int j, L => if -(2 ^ 62) ≤ j ∧ j < 2 ^ 62 then .ok ⟨rgD 0 j.toNat, none⟩ L else .bad
  | _, _ => .bad
def rg2 : D → D → LH → Res Wk
  | .int i, .int j, L => if -(2 ^ 62) ≤ i ∧ i < 2 ^ 62 ∧ -(2 ^ 62) ≤ j ∧ j < 2 ^ 62 then .ok ⟨rgD i (j - i).toNat, none⟩ L else .bad
  | _, _, _ => .bad
theorem rg1_inv {x : D} {L L' : LH} {w : Wk} (h : rg1 x L = .ok w L') : ∃ j, x = .int j ∧ -(2 ^ 62) ≤ j ∧ j < 2 ^ 62 ∧ w = ⟨rgD 0 j.toNat, none⟩ ∧ L' = L := by
  unfold rg1 at h
  split at h
  · obtain ⟨hj, h2⟩ := if_inv h
    cases h2
    exact ⟨_, rfl, hj.1, hj.2, rfl, rfl⟩
  · cases h
theorem rg2_inv {x y : D} {L L' : LH} {w : Wk} (h : rg2 x y L = .ok w L') : ∃ i j, x = .int i ∧ y = .int j ∧ (-(2 ^ 62) ≤ i ∧ i < 2 ^ 62 ∧ -(2 ^ 62) ≤ j ∧ j < 2 ^ 62) ∧ w = ⟨rgD i (j - i).toNat, none⟩ ∧ L' = L := by
  unfold rg2 at h
  split at h
  · obtain ⟨hj, h2⟩ := if_inv h
    cases h2
    exact ⟨_, _, rfl, rfl, hj, rfl, rfl⟩
  · cases h
def iR1 (f : Ex) : It := fun ρ L => (f ρ L).bind rg1
def iR2 (f g : Ex) : It := fun ρ L => (f ρ L).bind fun x L => (g ρ L).bind fun y L => rg2 x y L
theorem yl_rng {W : Wd} {ι1 : Io} {L1 : LH} {H1 : Hp} {lo : Int} {n : Nat} : Yl W (Itr lo n) ⟨rgD lo n, none⟩ ι1 L1 H1 := fun ι L H le g _ => by
  refine ⟨fun i d hi => ?_, by show n ≤ _; simp [rgD]⟩
  unfold rgD at hi
  rw [List.getElem?_map] at hi
  cases e : (List.range n)[i]? with
  | none => rw [e] at hi; cases hi
  | some j =>
    rw [e] at hi; cases hi
    obtain ⟨h1, h2⟩ := List.getElem?_eq_some_iff.mp e
    have hj : i = j := by simpa using h2
    subst hj
    refine ⟨show i < n by simpa using h1, fun x H' ⟨e2, hx⟩ => ?_⟩
    subst e2 hx
    exact ⟨ι, .refl, g, .int _⟩
variable {tg : Expr} {p : Pos}
theorem pdi_r1 (hm : X.mg "range" = none) (ha : PD X a fa) (hg : Gl X "range" := by rfl) (hs : starEach [a] X.env = [(false, eval a X.env)] := by rfl) : PDI X tg (.Call (.Name "range" p) [a] [] pos) (iR1 fa) :=
  (pi_range1 hg hm (pda_cons ha pda_nil (by rw [hs]; rfl)) hs).cq fun σ H R ⟨ι, L, ρ, s, w, L', hf, k⟩ => by
    obtain ⟨x, L1, h1, hf⟩ := bind_inv hf
    obtain ⟨j, rfl, q1, q2, rfl, rfl⟩ := rg1_inv hf
    refine ⟨ι, L, ρ, s, [.int j], L', by simp only [eArgs, h1, bind_ok], fun vs ι1 H1 le g r => ?_⟩
    obtain ⟨v, ev, r'⟩ := r.inv1
    exact ⟨j, by rw [ev, r'.int_inv], q1, q2, k _ ι1 H1 le g yl_rng⟩
theorem pdi_r2 (hm : X.mg "range" = none) (ha : PD X a fa) (hb : PD X b fb) (hg : Gl X "range" := by rfl) (hs : starEach [a, b] X.env = [(false, eval a X.env), (false, eval b X.env)] := by rfl) (hs2 : starEach [b] X.env = [(false, eval b X.env)] := by rfl) :
    PDI X tg (.Call (.Name "range" p) [a, b] [] pos) (iR2 fa fb) :=
  (pi_range2 hg hm (pda_cons ha (pda_cons hb pda_nil (by rw [hs2]; rfl)) (by rw [hs, hs2])) hs hs2).cq fun σ H R ⟨ι, L, ρ, s, w, L', hf, k⟩ => by
    obtain ⟨x, L1, h1, hf⟩ := bind_inv hf
    obtain ⟨y, L2', h2, hf⟩ := bind_inv hf
    obtain ⟨i, j, rfl, rfl, hj, rfl, rfl⟩ := rg2_inv hf
    refine ⟨ι, L, ρ, s, [.int i, .int j], L', by simp only [eArgs, h1, h2, bind_ok], fun vs ι1 H1 le g r => ?_⟩
    obtain ⟨v, v2, ev, r', r2⟩ := r.inv2
    exact ⟨i, j, by rw [ev, r'.int_inv, r2.int_inv], hj, k _ ι1 H1 le g yl_rng⟩
/-! ### {} and {k: v, ..} -/
def eD0 : Ex := fun _ L => .ok (.dct [] []) L
def eDN : Ex := fun _ L => .ok (.ref L.length) (L ++ [some (.dct [] [])])
theorem pd_d0 : PD X (.Dict [] [] pos) eD0 := pe_dnewK.cq fun σ H Q ⟨ι, L, ρ, s, d, L', hf, k⟩ => by
  cases hf
  intro p hp
  obtain ⟨g2, le2, r2⟩ := s.g.newDct (kvs := []) rfl .nil hp
  exact k _ ι _ le2 g2 r2
theorem pd_dN : PD X (.Dict [] [] pos) eDN := pe_dnewK.cq fun σ H Q ⟨ι, L, ρ, s, d, L', hf, k⟩ => by
  cases hf
  intro p hp
  obtain ⟨g2, le2, r2⟩ := s.g.trkDct (kvs := []) rfl .nil hp
  exact k _ _ _ le2 g2 r2
def ePairs : List (Ex × Ex) → Rho → LH → Res (List Key × List D)
  | [], _, L => .ok ([], []) L
  | (k, v) :: r, ρ, L => (k ρ L).bind fun x L => (v ρ L).bind fun y L => (ePairs r ρ L).bind fun q L => match keyOf x with
    | some k => .ok (k :: q.1, y :: q.2) L
    | none => .bad
def mergeD : List Key → List D → List Key × List D → List Key × List D
  | k :: ks, x :: xs, q => mergeD ks xs (dput q.1 q.2 k x)
  | _, _, q => q
def eDis (kvs : List (Ex × Ex)) : Ex := fun ρ L => (ePairs kvs ρ L).bind fun q L => if q.1.length ≤ 15 then .ok (.dct (mergeD q.1 q.2 ([], [])).1 (mergeD q.1 q.2 ([], [])).2) L else .bad
def eDisN (kvs : List (Ex × Ex)) : Ex := fun ρ L => (ePairs kvs ρ L).bind fun q L => if q.1.length ≤ 15 then .ok (.ref L.length) (L ++ [some (.dct (mergeD q.1 q.2 ([], [])).1 (mergeD q.1 q.2 ([], [])).2)]) else .bad
theorem pairs_run {W : Wd} {σ : L2.St} {ρ : Rho} : ∀ {kvs : List (Ex × Ex)} {ι : Io} {L L' : LH} {H : Hp} {q : List Key × List D} {R : List (V × V) → Hp → Prop}, Sa W ι L H σ ρ → ePairs kvs ρ L = .ok q L' →
    (∀ (ks : List (Key × V)) ι' H', Le ι L H ι' L' H' → Good W ι' L' H' → ks.map (·.1) = q.1 → RpA W ι' (Lv ι' L') H' (ks.map (·.2)) q.2 → R (ks.map fun kv => (kV kv.1, kv.2)) H') →
    tPairs (kvs.map fun p => (wE W p.1, wE W p.2)) σ H R
  | [], ι, L, L', H, q, R, s, h, k => by
    cases h
    exact k [] ι H .refl s.g rfl .nil
  | (fk, fv) :: kvs, ι, L, L', H, q, R, s, h, k => by
    simp only [ePairs] at h
    obtain ⟨x, L1, h1, h⟩ := bind_inv h
    obtain ⟨y, L2', h2, h⟩ := bind_inv h
    obtain ⟨q', L3, h3, h⟩ := bind_inv h
    cases hk : keyOf x with
    | none => rw [hk] at h; cases h
    | some key =>
      rw [hk] at h
      cases h
      refine ⟨ι, L, ρ, s, x, L1, h1, fun xv ι1 H1 le1 g1 r1 => ⟨ι1, L1, ρ, s.next le1 g1, y, L2', h2, fun yv ι2 H2 le2 g2 r2 => ?_⟩⟩
      refine pairs_run ((s.next le1 g1).next le2 g2) h3 fun ks ι3 H3 le3 g3 e1 ra => ?_
      have := k ((key, yv) :: ks) ι3 H3 ((le1.trans le2).trans le3) g3 (by simp [e1]) (.cons (r2.mono g2 le3) ra)
      rw [keyOf_kV r1 hk]
      exact this
theorem merge_ok {W : Wd} {ι : Io} {lv : Addr → Prop} {H : Hp} : ∀ {more : List (Key × V)} {ks : List Key} {xs : List D} {acc : List (Key × V)} {q : List Key × List D}, more.map (·.1) = ks → RpA W ι lv H (more.map (·.2)) xs → acc.map (·.1) = q.1 → RpA W ι lv H (acc.map (·.2)) q.2 →
    (mergeK acc more).map (·.1) = (mergeD ks xs q).1 ∧ RpA W ι lv H ((mergeK acc more).map (·.2)) (mergeD ks xs q).2
  | [], _, _, acc, q, rfl, r, ea, ra => by cases r; exact ⟨ea, ra⟩
  | (k, v) :: more, _, _, acc, q, rfl, r, ea, ra => by
    cases r with
    | cons p r =>
      obtain ⟨e1, r1⟩ := dput_ok (k := k) p ea ra
      have z := merge_ok (more := more) (ks := more.map (·.1)) (acc := putK acc k v) rfl r e1 r1
      exact z
variable {keys : List (Option Expr)} {values : List Expr} {kvs : List (Ex × Ex)}
theorem pd_dis (h : PPs X pos keys values (kvs.map fun p => (wE X.wd p.1, wE X.wd p.2))) (hall : keys.all (·.isSome) = true := by rfl) (hl : keys.length = values.length := by rfl) (h0 : keys ≠ [] := by exact fun z => nomatch z) (h15 : keys.length ≤ 15 := by decide) :
    PD X (.Dict keys values pos) (eDis kvs) := (pe_disp h hall hl h0 h15).cq fun σ H Q ⟨ι, L, ρ, s, d, L', hf, k⟩ => by
  obtain ⟨q, L1, h1, hf⟩ := bind_inv hf
  obtain ⟨hlen, hf⟩ := if_inv hf
  cases hf
  intro p hp
  have g1 : Good X.wd (zPut ι p) L (upd H p (.dK [])) := s.g.begin hp (.inr ⟨_, rfl⟩)
  have lb1 : Lb ι L H (zPut ι p) L (upd H p (.dK [])) := Lb.begin hp
  refine pairs_run (W := X.wd) (ι := zPut ι p) ⟨g1, s.s.monoB s.g lb1⟩ h1 fun ks ι2 H2 le2 g2 e2 r2 => ?_
  have hz2 : ι2.z p := by rw [le2.zz]; exact .inr rfl
  have hp2 : H2 p = some (.dK []) := (le2.zk p (.inr rfl)).trans upd_same
  refine ⟨hp2, ks, rfl, by rw [← List.length_map (f := (·.1)), e2]; exact hlen, ?_⟩
  obtain ⟨g3, lc3⟩ := g2.remake (o := .dK (mergeK [] ks)) hz2 (.inr ⟨_, rfl⟩)
  have zz : ∀ a, ι2.z a ↔ ι.z a ∨ a = p := fun a => by rw [le2.zz]; exact Iff.rfl
  have gf : Good X.wd ⟨ι2.io, ι.z⟩ L' (upd H2 p (.dK (mergeK [] ks))) := Good.finish (ι := ⟨ι2.io, ι.z⟩) (z := ι2.z) g3 zz
  have wk : ∀ a, Lv ⟨ι2.io, ι.z⟩ L' a → Lv ι2 L' a := fun a q => q.elim (fun q => .inl q) fun q => .inr ((zz a).mpr (.inl q))
  have np : ∀ a, ι.z a → a ≠ p := fun a ha e => by subst e; exact s.g.zFresh hp ha
  have lef : Le ι L H ⟨ι2.io, ι.z⟩ L' (upd H2 p (.dK (mergeK [] ks))) := by
    refine ⟨⟨⟨fun i a q => lc3.io _ _ (le2.io _ _ (lb1.io _ _ q)), fun a o q n => ?_⟩, rfl⟩, fun a ha => ?_⟩
    · obtain ⟨a1, a2⟩ := lb1.nl a o q n
      obtain ⟨b1, b2⟩ := le2.nl a o a1 a2
      obtain ⟨c1, c2⟩ := lc3.nl a o b1 b2
      exact ⟨c1, fun z => c2 (wk a z)⟩
    · rw [upd_ne (np a ha), le2.zk a (.inl ha), upd_ne (np a ha)]
  obtain ⟨e4, r4⟩ := merge_ok (acc := []) (q := ([], [])) e2 (r2.monoC g2 lc3.toLb) rfl .nil
  refine k (.ref p) ⟨ι2.io, ι.z⟩ _ lef gf (.dct upd_same ?_ e4 (RpA.weak (ι := ι2) (z := ι.z) wk r4))
  rintro (⟨i, o, hi, hL⟩ | q)
  · exact g2.zi i p hi hz2
  · exact np p q rfl
/-! ### repr -/
/-- an item that has no parts -/
def atomP : D → Option PyData
  | .non => some .none
  | .bl b => some (.bool b)
  | .int i => some (.int i)
  | .str x => some (.str x)
  | _ => none
def atomPA : List D → Option (List PyData)
  | [] => some []
  | x :: xs => (atomP x).bind fun p => (atomPA xs).map (p :: ·)
def keyP : Key → PyData
  | .inl i => .int i
  | .inr x => .str x
/-- the data of what is shown: nested lists and tuples, or a dict of atoms -/
def shP (d : D) : Option PyData := match d with
  | .dct ks xs => (atomPA xs).map fun ps => .dict ((ks.map keyP).zip ps)
  | d => toP d
def reprD (x : D) (L : LH) : Res D := match shP (deref L x) with
  | some p => if p.showable = true ∧ p.depth ≤ 40 ∧ p.shown.length ≤ sz then .ok (.str p.shown) L else .bad
  | none => .bad
end
end Cz
set_option linter.all false
set_option autoImplicit false
set_option maxRecDepth 100000
/-! The data layer: repr. -/
namespace Cz
open PySem PySem.Spec PyProof.Rows L2
section
variable {X : Cx}
theorem Rp.atom {W : Wd} {ι : Io} {lv : Addr → Prop} {H : Hp} {h : Heap} {v : V} {d : D} {p : PyData} {u : Value} (r : Rp W ι lv H v d) (e : atomP d = some p) (ru : RelV v u) : Reads h u p [] := by
  cases d <;> first | (simp [atomP] at e; done) | skip
  all_goals (simp only [atomP] at e; cases e)
  · cases r; cases ru; exact .none
  · cases r; cases ru; exact .bool _
  · cases r; obtain ⟨t, rfl⟩ := ru; exact .int _ _
  · cases r; obtain ⟨t, rfl⟩ := ru; exact .str _ _
theorem KV.reads {W : Wd} {ι : Io} {lv : Addr → Prop} {H : Hp} {h : Heap} {P : Program} {w : World} : ∀ {kvs : List (Key × V)} {vs : List (Key × Value)} {es : List DictEntry} {ks : List Key} {xs : List D} {ps : List PyData}, KV kvs vs → Pairs (mixKind P w) es vs → kvs.map (·.1) = ks → RpA W ι lv H (kvs.map (·.2)) xs → atomPA xs = some ps →
    ReadsAll h (es.map (·.key)) (((ks.map keyP).zip ps).map (·.1)) [] ∧ ReadsAll h (es.map (·.val)) (((ks.map keyP).zip ps).map (·.2)) []
  | [], _, _, _, _, _, kv, pr, rfl, r, e => by
    cases kv; cases pr; cases r; exact ⟨.nil, .nil⟩
  | (k, v) :: kvs, _, _, _, _, ps, kv, pr, rfl, r, e => by
    cases kv with
    | cons hkv kv => cases pr with
      | cons h1 h2 pr => cases r with
        | cons q r =>
          simp only [atomPA] at e
          obtain ⟨p0, e1, e⟩ := Option.bind_eq_some_iff.mp e
          obtain ⟨ps', e2, e⟩ := Option.map_eq_some_iff.mp e
          subst e
          obtain ⟨a, b⟩ := KV.reads (h := h) kv pr rfl r e2
          refine ⟨?_, ?_⟩
          · refine ReadsAll.cons (as := []) (bs := []) ?_ a
            rw [← hkv.1] at h1
            show Reads h (DictEntry.key _) (keyP k) []
            rcases keyIs_shape h1 with ⟨i, t, e3, e4⟩ | ⟨x, t, e3, e4⟩
            · rw [show k = Sum.inl i from e3, e4]; exact .int _ _
            · rw [show k = Sum.inr x from e3, e4]; exact .str _ _
          · refine ReadsAll.cons (as := []) (bs := []) ?_ b
            show Reads h (DictEntry.val _) p0 []
            rw [h2]
            exact q.atom e1 hkv.2
theorem atom_repr {p : PyData} {u : Value} {A : Around} {E : Value → Shared → Prop} {s : Shared} {h : Heap} {as : List Addr} {Q : Value → Shared → Prop} {prog : Program} {w : World} (r : Reads h u p as) (hu : A.units + (p.depth + 1) < cLine) (hg : A.guards = some [])
    (hs : p.showable = true) (hsm : p.hasDict = true → sysModules ∉ as) (hz : p.shown.length ≤ sizeLine) (hk0 : ∀ b o, h.get? b = some o → s.heap.get? b = some o)
    (hQ : ∀ h' u tk, (∀ b o, s.heap.get? b = some o → h'.get? b = some o) → Q (.str p.shown u) { s with heap := h', toks := tk }) : wpAny (model prog w) A (call (.builtin "repr") [u]) Q E s := by
  cases r with
  | none => exact PySem.P.repr_of_none (by simpa [PyData.shown] using hQ s.heap s.toks (s.toks + 1) fun _ _ e => e)
  | bool b => exact PySem.P.repr_of_bool (by simpa [PyData.shown] using hQ s.heap s.toks (s.toks + 1) fun _ _ e => e)
  | int i t => exact PySem.P.repr_of_int (by simpa [PyData.showable] using hs) (by simpa [PyData.shown] using hQ s.heap s.toks (s.toks + 1) fun _ _ e => e)
  | str x t => exact PySem.P.repr_of_str (by simpa [PyData.shown] using hQ s.heap s.toks (s.toks + 1) fun _ _ e => e) (by simpa [PyData.shown] using hz)
  | list h1 h2 h3 h4 => exact repr_of_reads' (.list h1 h2 h3 h4) hs hsm hg hu hk0 hQ hz
  | tuple h1 h2 h3 h4 => exact repr_of_reads' (.tuple h1 h2 h3 h4) hs hsm hg hu hk0 hQ hz
  | dict h1 h2 h3 h4 h5 => exact repr_of_reads' (.dict h1 h2 h3 h4 h5) hs hsm hg hu hk0 hQ hz
mutual
theorem toP_noDict : ∀ (d : D) {p : PyData}, toP d = some p → p.hasDict = false
  | .non, _, h => by simp only [toP] at h; cases h; rfl
  | .bl _, _, h => by simp only [toP] at h; cases h; rfl
  | .int _, _, h => by simp only [toP] at h; cases h; rfl
  | .str _, _, h => by simp only [toP] at h; cases h; rfl
  | .tup xs, _, h => by
    simp only [toP] at h
    obtain ⟨ps, e1, e2⟩ := Option.map_eq_some_iff.mp h
    subst e2
    simpa only [PyData.hasDict] using toPA_noDict xs e1
  | .lst xs, _, h => by
    simp only [toP] at h
    obtain ⟨ps, e1, e2⟩ := Option.map_eq_some_iff.mp h
    subst e2
    simpa only [PyData.hasDict] using toPA_noDict xs e1
  | .dct _ _, _, h => by simp [toP] at h
  | .scr _, _, h => by simp [toP] at h
  | .ref _, _, h => by simp [toP] at h
  | .ty _, _, h => by simp [toP] at h
  | .fn _, _, h => by simp [toP] at h
  | .exn _ _ _, _, h => by simp [toP] at h
  | .exn0 _, _, h => by simp [toP] at h
theorem toPA_noDict : ∀ (xs : List D) {ps : List PyData}, toPA xs = some ps → PyData.hasDictAll ps = false
  | [], _, h => by simp only [toPA] at h; cases h; rfl
  | x :: xs, _, h => by
    simp only [toPA] at h
    obtain ⟨p, e1, h⟩ := Option.bind_eq_some_iff.mp h
    obtain ⟨ps, e2, h⟩ := Option.map_eq_some_iff.mp h
    subst h
    simp only [PyData.hasDictAll, toP_noDict x e1, toPA_noDict xs e2, Bool.or_self]
end
theorem oc_repr (hr : X.A.units + 100 < cLine) (hgd : X.A.guards = some []) : OpC X (.builtin "repr") (f1 reprD) := by
  intro pins s σ H xs us Q I rv ⟨ι, L, ds, d, L', g, rr, hf, k⟩
  obtain ⟨x, ex, hg⟩ := f1_inv hf
  subst ex
  clear hf
  obtain ⟨v, ev, r⟩ := rr.inv1
  subst ev
  clear rr
  cases rv with
  | cons ru rn =>
    rename_i u _
    cases rn
    unfold reprD at hg
    cases hp : shP (deref L x) with
    | none => rw [hp] at hg; cases hg
    | some p =>
      rw [hp] at hg
      obtain ⟨⟨h1, h2, h3⟩, hg⟩ := if_inv hg
      cases hg
      have key : ∃ as, Reads s.heap u p as ∧ (p.hasDict = true → sysModules ∉ as) := by
        unfold shP at hp
        split at hp
        · rename_i q1
          obtain ⟨ps, e1, e2⟩ := Option.map_eq_some_iff.mp hp
          subst e2
          obtain ⟨a, kvs, rfl, hv, hk, ra⟩ := g.seeD r q1
          obtain ⟨_, hd, vs, kv, o, es, ep, ho, hx, hdt, _, pr, _⟩ := dk_of I.hok hv
          cases ru
          obtain ⟨a1, a2⟩ := KV.reads (h := s.heap) kv pr hk ra e1
          refine ⟨_, .dict ho hx.1 hdt a1 a2, fun _ z => ?_⟩
          have z' : sysModules = a := by simpa using z
          subst z'
          simp at hd
        · obtain ⟨as, q⟩ := Dp.reads I p v u (g.dp r hp) ru
          exact ⟨as, q, fun z => by rw [toP_noDict _ hp] at z; cases z⟩
      obtain ⟨as, q, hsm⟩ := key
      refine atom_repr q (by omega) hgd h1 hsm h3 (fun _ _ e => e) fun h' u' tk hk => ⟨.str p.shown, H, I.kept (t' := tk) hk, ⟨_, rfl⟩, k.now g (.str _)⟩
end
end Cz
set_option linter.all false
set_option autoImplicit false
set_option maxRecDepth 100000
set_option maxHeartbeats 2000000
/-! The data layer: exceptions as values: classes of the program over ValueError, made, read, asked. -/
namespace Cz
open PySem PySem.W PySem.Calls PyProof.Rows PySem.Spec L2
/-- the text of such an __init__ -/
def supBody (pn f : Str) (p0 p1 p2 p3 p4 p5 p6 p7 p8 p9 : Pos) : List Stmt :=
  [.Expr (.Call (.Attribute (.Call (.Name "super" p0) [] [] p1) "__init__" p2) [.Name pn p3] [] p4) p5, .Assign [.Attribute (.Name "self" p6) f p7] (.Name pn p8) p9]
/-- what the text must show -/
structure SupScope (pn : Str) (params : Arguments) (sc : Scope) : Prop where
  kind : sc.kind = .function
  co : sc.isCoroutine = false
  gen : sc.isGenerator = false
  nocell : ∀ x ∈ sc.names, x.2 ≠ .cell
  sup : sc.names.lookup ("super" : Str) = some .globalImplicit
  cls : sc.names.lookup ("__class__" : Str) = some .free
  self : sc.names.lookup ("self" : Str) = some .local
  par : sc.names.lookup pn = some .local
  ne : pn ≠ "self"
  hd : (pn == ("__debug__" : Str)) = false
  first : ∃ ar, (params.posonlyargs ++ params.args).head? = some ar ∧ ar.arg = "self"
theorem callEnv_ks {name qual : Str} {params : Arguments} {body : List Stmt} {scope : Scope} {dV kV doc pm : Value} {an : Option Addr} {cdv ct : Value} {cc L a : Addr} : callEnv (ksFn name qual params body scope dV kV doc pm an cdv ct cc) L a = ksEnv qual scope L a cdv cc := rfl
section
variable {prog : Program} {w : World} {A : Around} {K : Frag} {mg : Str → Option Value} {base : Heap} {hp : Heap} {g : Array GenState} {d : Drawn} {t : Nat} {os : OsState}
  {name qual pn f : Str} {params : Arguments} {scope : Scope} {dV kV doc pm ct oc ccl cl : Value} {an od cdd cld : Option Addr} {osl ccs csl : Array (Option Value)} {fI C cc cda e t0 : Addr} {vs : Array Value} {file : Str} {tf : Tok} {u : Value}
  {p0 p1 p2 p3 p4 p5 p6 p7 p8 p9 : Pos} {args : Args} {cdC : ClassData} {R : Result → Shared → Prop}
theorem init_raw (M : Mod K mg base) (kb : ∀ b o, base.get? b = some o → hp.get? b = some o) (S : SupScope pn params scope) (T : OexC K C) (hroom : A.depth < recursionLimit)
    (lk : K.lookup fI = some ⟨oc, od, .func (ksFn name qual params (supBody pn f p0 p1 p2 p3 p4 p5 p6 p7 p8 p9) scope dV kV doc pm an (.ref cda) ct cc), osl⟩) (hcd : codeIn K (.ref cda) qual = true)
    (hcode : K.lookup cda = some ⟨ccl, cdd, .fields vs, ccs⟩) (hvs : vs[2]? = some (.str file tf)) (hfile : ((prog.main.file : Str) == file) = true) (htop : (prog.main.scope.names.lookup ("super" : Str)).isSome = false)
    (hcell : K.lookup cc = some ⟨cl, cld, .cell (some (.ref C)), csl⟩) (hsub : mroIn K C (.ref C) = some true) (hsuper : mg "super" = none) (ho : nsIn K cStatics "thirdparty.any" = some none)
    (hm : ks_superIn K C C "__init__" = some (some (.builtin "ValueError.__init__"))) (hB : subIn K (.ref C) (.type "ValueError") = some true) (hno : findIn K (.ref C) f = some none)
    (hKe : ∀ b o, K.lookup b = some o → b ≠ e) (he : hp.get? e = some (HandSPX.excO C t0)) (hb : BindsTo ⟨hp, g, d, t, os⟩ (ksFn name qual params (supBody pn f p0 p1 p2 p3 p4 p5 p6 p7 p8 p9) scope dV kV doc pm an (.ref cda) ct cc) args [("self", .ref e), (pn, u)])
    (pl : Env → Sem Bool) (hev : ∀ env : Env, eval (.Call (.Attribute (.Call (.Name "super" p0) [] [] p1) "__init__" p2) [.Name pn p3] [] p4) env = (do
      let ov ← attributeBase (.Call (.Name "super" p0) [] [] p1) "__init__" env (eval (.Call (.Name "super" p0) [] [] p1) env)
      standAt p2.atName
      let (f, first) ← holding [ov] (getMethod ov "__init__" (pl env))
      callWith p4 f first (backTo p4 (starEach [.Name pn p3] env)) []))
    (hq : ∀ h' dx t1 tk, (∀ b o, b ≠ e → hp.get? b = some o → h'.get? b = some o) → hp.objs.size ≤ dx → dx ≠ e → h'.get? e = some { cls := .ref C, dict := some dx, data := .fields #[.ref t1, .none, .none, .none, .bool false, .none] } →
      h'.Ns1 dx (fun y => if y = f then some u else none) → R (.ok (.ret .none)) ⟨h', g, d, tk, os⟩) :
    codeAny (model prog w) A (.call (.ref fI) args) R ⟨hp, g, d, t, os⟩ := by
  have KX : K.In hp := M.kin.keeps kb
  have lim : hp.NoLimit := M.nolimit.keeps kb
  refine ks_codeAny_call_defAt hroom (KX _ _ lk) rfl lim (codeRec_of KX hcd) rfl hb S.nocell (fun x hx => ?_) (fun h0 hns hk0 => ?_) S.co S.gen S.kind
  · rcases List.mem_cons.mp hx with hx | hx
    · subst hx; exact S.self
    · rcases List.mem_cons.mp hx with hx | hx
      · subst hx; exact S.par
      · cases hx
  rw [callEnv_ks]
  obtain ⟨nm, q, N, bs, bm, sn, sub, ab, col, dd, k0, k1, k2, k3, k5, hC0, hbm⟩ := T.cls
  obtain ⟨ar, har, ear⟩ := S.first
  obtain ⟨mb, hmb, hbb⟩ := M.blt
  have hcl : clsIn K C = some { name := nm, bases := bs, mro := .ref C :: bm, ns := N, qualname := q, hasDict := true, slotNames := sn, subclasses := sub, abstract := ab, collection := col, hasDel := false } := by unfold clsIn; rw [hC0] <;> rfl
  have X0 : K.In h0 := KX.keeps hk0
  have he0 : h0.get? e = some (HandSPX.excO C t0) := hk0 _ _ he
  have lself : ([(("self" : Str), Value.ref e), (pn, u)] : List (Str × Value)).reverse.lookup ("self" : Str) = some (Value.ref e) := by
    have n : ((("self" : Str)) == pn) = false := by simpa using fun z => S.ne (Eq.symm z)
    simp [List.lookup, n]
  have lpn : ([(("self" : Str), Value.ref e), (pn, u)] : List (Str × Value)).reverse.lookup pn = some u := by simp [List.lookup]
  have lL : ∀ {h : Heap}, (∀ b o, h0.get? b = some o → h.get? b = some o) → h.Ns hp.objs.size (fun x => ([(("self" : Str), Value.ref e), (pn, u)] : List (Str × Value)).reverse.lookup x) := fun k => hns.keeps k
  refine ks_wpAt_execs_cons (ks_wpAt_Expr_any (ks_wpAt_MethodCall (pl := pl (ksEnv qual scope hp.objs.size fI (.ref cda) cc)) ?_ (hev _)) (by simp [interactive, S.kind]))
  refine ks_wpAt_super_base (env := ksEnv qual scope hp.objs.size fI (.ref cda) cc) S.sup S.cls (by decide) rfl (X0 _ _ lk) rfl har rfl (X0 _ _ hcode) rfl hvs hfile htop ?_
  refine ks_loadName_global S.kind S.sup (loadGlobal_builtin (env := ksEnv qual scope hp.objs.size fI (.ref cda) cc) ((M.glob.keeps kb).keeps hk0) hsuper ((hmb.keeps kb).keeps hk0) ((hbb _ (by decide +kernel)).trans (show bootBuiltins "super" = some (.type "super") by decide +kernel)) ⟨rfl, ?_⟩)
  refine wpAny_loadName_free S.kind S.cls rfl ⟨_, X0 _ _ hcell, rfl⟩ ?_
  rw [ear]
  refine wpAny_loadName_local S.kind S.self hns lself ?_
  have hD1 := X0 _ _ hC0
  refine ks_wpAny_isType_cls hD1 rfl ⟨rfl, ?_⟩
  refine ks_wpAny_call_super hD1 rfl he0 rfl (fun c z => nomatch z) (looks_mroIn X0 hsub) (fun h1 e1 k1 => ?_)
  have I1 : InstAt h1 e (HandSPX.excO C t0) C none := ⟨k1 _ _ he0, rfl, rfl, trivial⟩
  have X1 : K.In h1 := X0.keeps k1
  have hm' : alongIn K "__init__" (((Value.ref C :: bm).dropWhile (· != .ref C)).drop 1) = some (some (.builtin "ValueError.__init__")) := by
    have z := hm
    unfold ks_superIn at z
    rw [hcl] at z
    exact z
  refine kxs_getMethod kxs_ValueError e1 (looks_opaque X1 ho) (l₀ := Value.ref C :: bm) (fun A Q E s k q => wpAny_bind ((looks_clsIn X1 hcl) A _ E s k (wpAny_pure q))) rfl X1 hm' (I1.type.andThen (looks_subIn X1 hB)) (ks_ne X1 I1 hcl) (by decide) ?_
  have k2 : ∀ b o, h1.get? b = some o → (h1.push (kxs_mw "ValueError.__init__" e)).get? b = some o := fun b o z => Heap.get?_push_of_some _ z
  have hu2 : (h1.push (kxs_mw "ValueError.__init__" e)).get? h1.objs.size = some (kxs_mw "ValueError.__init__" e) := Heap.get?_push_at rfl rfl
  generalize hh2 : h1.push (kxs_mw "ValueError.__init__" e) = h2 at k2 hu2 ⊢
  have k02 : ∀ b o, h0.get? b = some o → h2.get? b = some o := fun b o z => k2 _ _ (k1 _ _ z)
  refine kxs_callWith (i := "ValueError.__init__") (x := e) rfl ?_
  refine evalArgs_plain ?_
  refine spliced_cons (wpAny_Name (wpAny_loadName_local S.kind S.par (lL k02) lpn ?_) S.hd)
  refine spliced_nil ⟨hu2, ?_⟩
  refine wpAny_call (codeAny_of_tree ?_)
  show wpAny _ (A.deeper _).in1 (callAny (.ref h1.objs.size) ⟨[u], []⟩) _ _ _
  simp only [callAny]
  refine wpAny_bind (wpAny_load hu2 ?_)
  simp only [kxs_mw, show (Value.type "method-wrapper" == Value.type "method" || Value.type "method-wrapper" == Value.type "builtin_function_or_method" || Value.type "method-wrapper" == Value.type "method-wrapper") = true by decide, if_true]
  refine KFB.if_so (by decide) ?_
  refine wpAny_bind (check_bound_init F.excBase_ValueError.toExcCallFacts (X0.keeps k02 _ _ hC0) (k02 _ _ he0) rfl ?_)
  refine wpAny_bind (wpAny_pure (wpAny_pure ?_))
  refine ⟨plainId_quiet F.excBase_ValueError.init.plain _, codeAny_builtin F.excBase_ValueError.initEntry ?_⟩
  refine exc_init_tree (cls := .ref C) (t0 := t0) (dv := none) (c2 := .none) (c3 := .none) (b4 := .bool false) (k02 _ _ he0) (by show 1 ≤ sizeLine; decide) fun h3 k3 e3 t3 => ?_
  have nL : ∀ {b : Addr} {o : Obj}, hp.get? b = some o → b ≠ hp.objs.size := fun z => Nat.ne_of_lt (Heap.lt_size z)
  have eL : e ≠ hp.objs.size := nL he
  obtain ⟨oL, esL, epL, hL, rL⟩ := lL k02
  have ns3 : h3.Ns hp.objs.size (fun x => ([(("self" : Str), Value.ref e), (pn, u)] : List (Str × Value)).reverse.lookup x) := ⟨oL, esL, epL, k3 _ _ (Ne.symm eL) hL, rL⟩
  have X3 : K.In h3 := fun b o z => k3 _ _ (hKe _ _ z) (k02 _ _ (X0 _ _ z))
  refine ks_wpAt_execs_cons (ks_wpAt_Assign_Attr ?_)
  refine wpAt_of_wpAny (wpAny_Name (wpAny_loadName_local S.kind S.par ns3 lpn ?_) S.hd)
  refine wpAny_Name (wpAny_loadName_local S.kind S.self ns3 lself ?_)
  refine set_plain X3 (ox := HandSPX.excO C h2.objs.size) (od := none) ⟨e3, rfl, rfl, trivial⟩ T.sa ?_
  refine HandSPX.exc_osa X3 e3 hcl (show HandSPX.refsVE (.ref C :: bm) = true from hbm) rfl hno fun h' tk' dx k dn dne hx hn => ?_
  refine wpAt_of_wpAny (wpAny_execs_nil ?_)
  refine hq h' dx h2.objs.size tk' (fun b o hb z => k b o hb (k3 b o hb (k02 _ _ (hk0 _ _ z)))) ?_ dne hx hn
  exact Nat.le_trans (Nat.le_of_lt (Heap.lt_size (k3 _ _ (Ne.symm eL) hL))) dn
end
end Cz
set_option linter.all false
set_option autoImplicit false
set_option maxRecDepth 100000
set_option maxHeartbeats 2000000
/-! The data layer: exception classes made by keywords (any keywords, handed on to __init__). -/
namespace Cz
open PySem PySem.W PySem.Calls PyProof.Rows PySem.Spec L2
section
variable {prog : Program} {w : World} {M : Model} {A : Around} {E : Value → Shared → Prop} {R : Result → Shared → Prop} {h : Heap} {g : Array GenState} {d : Drawn} {t : Nat} {os : OsState}
variable {nm q : Str} {C N : Addr} {bs bm bmB : List Value} {hdct : Bool} {sn : List Str} {sub : List Value} {ab : Bool} {col : Option Bool} {dd : Option Addr} {k0 k1 k2 k3 k5 : Option Value} {B newId initId : String} {kw : List (Str × Value)}
/-- the built-in __new__ takes any keywords -/
theorem newK_check (F : ExcBaseFacts B newId initId bmB) (hT : ∀ X : String, bm.contains (.type X) = bmB.contains (.type X))
    {Q : Unit → Shared → Prop} (hC : h.get? C = some (excClassObj nm q C N bs bm hdct sn sub ab col dd k0 k1 k2 k3 k5 newId)) (hq : Q () ⟨h, g, d, t, os⟩) : wpAny M A (checkBuiltinCall newId ⟨[.ref C], kw⟩) Q E ⟨h, g, d, t, os⟩ := by
  have hcont : (Value.ref C :: bm).contains (.type B) = true := by rw [List.contains_cons, hT, F.hasB, Bool.or_true]
  have hstar := F.noStar
  simp only [checkBuiltinCall, F.newKind, F.newSplit, F.newRow]
  repeat (first | refine wpAny_loadPart_at hC ?_ | (refine wpAny_isSubtype_exc hC ?_; rw [hcont]) | refine wpAny_staticBase_exc hC ?_ | refine wpAny_madeBy_exc hC ?_ | simp only [bne_self_eq_false, Bool.false_eq_true, if_false] | wp_step)
  exact hq
end
section
variable {prog : Program} {w : World} {A : Around} {E : Value → Shared → Prop} {R : Result → Shared → Prop} {h : Heap} {g : Array GenState} {d : Drawn} {t : Nat} {os : OsState}
variable {nm q : Str} {C N : Addr} {bs bm bmB : List Value} {hdct : Bool} {sn : List Str} {sub : List Value} {ab : Bool} {col : Option Bool} {dd : Option Addr} {k0 k1 k2 k3 k5 : Option Value} {B newId initId : String} {kw : List (Str × Value)}
/-- a new exception by keywords: no positional value is kept -/
theorem newK (F : ExcBaseFacts B newId initId bmB) (hT : ∀ X : String, bm.contains (.type X) = bmB.contains (.type X)) (hC : h.get? C = some (excClassObj nm q C N bs bm hdct sn sub ab col dd k0 k1 k2 k3 k5 newId))
    (hq : R (.ok (.ret (.ref (h.objs.size + 1)))) ⟨(h.push (kdv_tup [])).push (HandSPX.excO C h.objs.size), g, d, t, os⟩) : codeAny (model prog w) A (.builtin newId ⟨[.ref C], kw⟩) R ⟨h, g, d, t, os⟩ := by
  have z1 := F.ends
  have z2 : (Value.ref C :: bm).contains (.type B) = true := by rw [List.contains_cons, hT, F.hasB, Bool.or_true]
  have z3 : (Value.ref C :: bm).contains (.type "AttributeError") = false := by rw [List.contains_cons, hT, F.noAttr]; rfl
  have z4 : (Value.ref C :: bm).contains (.type "NameError") = false := by rw [List.contains_cons, hT, F.noName]; rfl
  refine codeAny_builtinAt F.entry ?_
  unfold Builtin.«BaseException.__new__»
  refine PySem.wpAt_bind ?_
  show PySem.wpAt _ _ _ (stack >>= _) _ _ _
  refine PySem.wpAt_bind (PySem.wpAt_stack fun p below => PySem.wpAt_of_wpAny ?_)
  wp_walk
  refine PySem.wpAt_of_wpAny ?_
  rw [F.owner]
  repeat (first | with_reducible refine wpAny_madeHere_exc F.canon hC ?_ | with_reducible refine wpAny_loadPart_at hC ?_ | (with_reducible refine wpAny_isSubtype_exc hC ?_; first | rw [z2] | rw [z3] | rw [z4]) | wp_step)
  show R _ _
  rw [Heap.size_push]
  exact hq
/-- .. then its __init__, by the keywords -/
theorem tcallK (F : ExcBaseFacts B newId initId bmB) (hT : ∀ X : String, bm.contains (.type X) = bmB.contains (.type X)) {fI : Addr} {Q : Fin → Shared → Prop}
    (hC : h.get? C = some (excClassObj nm q C N bs bm hdct sn sub ab col dd k0 k1 k2 k3 k5 newId)) (hi : Looks (model prog w) h (typeLookup (.ref C) "__init__") (some (.ref fI))) (hb : ∀ self, Looks (model prog w) h (bindSpecial (.ref fI) self) (.ref fI, [self]))
    (hq : codeAny (model prog w) A (.call (.ref fI) ⟨[.ref (h.objs.size + 1)], kw⟩) (fun r s' => match r with | .ok (.ret v) => v = .none ∧ Q (.done (.ret (.ref (h.objs.size + 1)))) s' | .ok _ => False | .error e => E e s')
      ⟨(h.push (kdv_tup [])).push (HandSPX.excO C h.objs.size), g, d, t, os⟩) : wpAny (model prog w) A (Builtin.«type.__call__» ⟨[.ref C], kw⟩) Q E ⟨h, g, d, t, os⟩ := by
  repeat (first | with_reducible refine wpAny_loadPart_at hC ?_ | with_reducible refine wpAny_madeBy_exc hC ?_ | wp_step)
  refine codeAny_call_builtin_code (Code.quiet_builtin _ F.quiet) (newK_check F hT hC ?_)
  refine newK F hT hC ?_
  show wpAny _ _ _ _ _ _
  have k : ∀ b o, h.get? b = some o → ((h.push (kdv_tup [])).push (HandSPX.excO C h.objs.size)).get? b = some o := fun b o e => Heap.get?_push_of_some _ (Heap.get?_push_of_some _ e)
  have y1 := k _ _ hC
  have y2 : ((h.push (kdv_tup [])).push (HandSPX.excO C h.objs.size)).get? (h.objs.size + 1) = some (HandSPX.excO C h.objs.size) := by heap_get
  have y3 : (Value.ref C :: bm).contains (.ref C) = true := by simp
  have i1 := hi.keeps k
  have b1 := (hb (.ref (h.objs.size + 1))).keeps k
  unfold isInstance
  repeat (first | with_reducible refine wpAny_loadPart_at y2 ?_ | (with_reducible refine wpAny_isSubtype_exc y1 ?_; rw [y3]) | wp_step)
  show wpAny _ _ (typeLookup (.ref C) _) _ _ _
  refine i1.at ?_
  refine wpAny_holding (wpAny_bind (b1.at ?_))
  refine wpAny_bind (wpAny_call (codeAny_mono hq fun r s' z => ?_))
  rcases r with e | (v | _ | _ | _) <;> first | exact z | exact z.elim | skip
  obtain ⟨rfl, z⟩ := z
  first
    | exact wpAny_pure (wpAny_pure z)
    | (wp_walk; exact z)
theorem callK (F : ExcBaseFacts B newId initId bmB) (hT : ∀ X : String, bm.contains (.type X) = bmB.contains (.type X)) {fI : Addr}
    (hC : h.get? C = some (excClassObj nm q C N bs bm hdct sn sub ab col dd k0 k1 k2 k3 k5 newId)) (hi : Looks (model prog w) h (typeLookup (.ref C) "__init__") (some (.ref fI))) (hb : ∀ self, Looks (model prog w) h (bindSpecial (.ref fI) self) (.ref fI, [self]))
    (hq : codeAny (model prog w) (A.under (.builtin "type.__call__" ⟨[.ref C], kw⟩)) (.call (.ref fI) ⟨[.ref (h.objs.size + 1)], kw⟩) (InitBack (h.objs.size + 1) R) ⟨(h.push (kdv_tup [])).push (HandSPX.excO C h.objs.size), g, d, t, os⟩) :
    codeAny (model prog w) A (.call (.ref C) ⟨[], kw⟩) R ⟨h, g, d, t, os⟩ := by
  have f1 := tc_lookup
  have f2 := tc_bind (.ref C)
  have hTy : (⟨h, g, d, t, os⟩ : Shared).TypeIs (.ref C) "type" := ⟨_, hC, rfl⟩
  refine codeAny_of_tree ?_
  show wpAny _ _ (callAny (.ref C) _) _ _ _
  repeat (any_goals (first | assumption | with_reducible refine wpAny_loadPart_at hC ?_ | wp_step))
  refine ⟨rfl, ?_⟩
  refine codeAny_call_builtin_at (Code.quiet_builtin _ (by decide +kernel)) entry_typeCall ?_
  have f3 := tc_sub
  refine wpAny_mono (Q := fun _ s' => s' = ⟨h, g, d, t, os⟩) (E := fun _ _ => False) ?_ (fun _ s' z => ?_) fun _ _ z => z.elim
  · simp only [checkBuiltinCall, tc_kind, tc_split]
    repeat (any_goals (first | assumption | with_reducible refine wpAny_loadPart_at hC ?_ | with_reducible refine wpAny_onRaise ?_ | with_reducible refine wpAny_map ?_ | wp_step))
    all_goals first | rfl | skip
  · subst z
    refine tcallK F hT hC hi hb ?_
    refine codeAny_mono hq fun r s' z => ?_
    rcases r with e | (v | _ | _ | _) <;> exact z
end
end Cz
set_option linter.all false
set_option autoImplicit false
set_option maxRecDepth 100000
set_option maxHeartbeats 2000000
/-! The data layer: exceptions made by their classes, as values. -/
namespace Cz
open PySem PySem.Spec L2
open PySem.W (ksFn ks_superIn clsIn codeIn nsIn mroIn subIn findIn typeIn)
/-- what is known of an exception class with the usual __init__ (C: where it lies) -/
structure SupC (P : Program) (K : PySem.W.Frag) (mg : Str → Option Value) (c pn f : Str) (C : Addr) : Prop where
  mgc : mg c = some (.ref C)
  T : OexC K C
  no : findIn K (.ref C) f = some none
  fI : ∃ (fI cda cc : Addr) (oc : Value) (od : Option Addr) (osl : Array (Option Value)) (name qual : Str) (params : Arguments) (scope : Scope) (kV doc pm ct : Value) (an : Option Addr) (p0 p1 p2 p3 p4 p5 p6 p7 p8 p9 : Pos) (ccl : Value) (cdd : Option Addr) (ccs : Array (Option Value)) (vs : Array Value) (file : Str) (tf : Tok) (cl : Value) (cld : Option Addr) (csl : Array (Option Value)) (pl : Env → Sem Bool),
    findIn K (.ref C) "__init__" = some (some (.ref fI)) ∧ typeIn K (.ref fI) = some (.type "function") ∧ SupScope pn params scope ∧
    K.lookup fI = some ⟨oc, od, .func (ksFn name qual params (supBody pn f p0 p1 p2 p3 p4 p5 p6 p7 p8 p9) scope .none kV doc pm an (.ref cda) ct cc), osl⟩ ∧ codeIn K (.ref cda) qual = true ∧
    K.lookup cda = some ⟨ccl, cdd, .fields vs, ccs⟩ ∧ vs[2]? = some (.str file tf) ∧ ((P.main.file : Str) == file) = true ∧ (P.main.scope.names.lookup ("super" : Str)).isSome = false ∧
    K.lookup cc = some ⟨cl, cld, .cell (some (.ref C)), csl⟩ ∧ mroIn K C (.ref C) = some true ∧ mg "super" = none ∧ nsIn K cStatics "thirdparty.any" = some none ∧
    ks_superIn K C C "__init__" = some (some (.builtin "ValueError.__init__")) ∧ subIn K (.ref C) (.type "ValueError") = some true ∧
    (∀ env : Env, eval (.Call (.Attribute (.Call (.Name "super" p0) [] [] p1) "__init__" p2) [.Name pn p3] [] p4) env = (do
      let ov ← attributeBase (.Call (.Name "super" p0) [] [] p1) "__init__" env (eval (.Call (.Name "super" p0) [] [] p1) env)
      standAt p2.atName
      let (f, first) ← holding [ov] (getMethod ov "__init__" (pl env))
      callWith p4 f first (backTo p4 (starEach [.Name pn p3] env)) [])) ∧
    (∀ e u : Value, bindArgs (ksFn name qual params (supBody pn f p0 p1 p2 p3 p4 p5 p6 p7 p8 p9) scope .none kV doc pm an (.ref cda) ct cc) ⟨[e, u], []⟩ = pure [(("self" : Str), e), (pn, u)]) ∧
    (∀ e u : Value, bindArgs (ksFn name qual params (supBody pn f p0 p1 p2 p3 p4 p5 p6 p7 p8 p9) scope .none kV doc pm an (.ref cda) ct cc) ⟨[e], [(pn, u)]⟩ = pure [(("self" : Str), e), (pn, u)])
section
variable {X : Cx} {c pn f : Str} {C : Addr} {pins : List (Addr × Obj)} {σ : L2.St} {H : Hp} {s : Shared}
/-- the heap behind C(v) -/
theorem mkx_inv {hp h' : Heap} {g : Array GenState} {d : Drawn} {t tk : Nat} {os : OsState} {e dx t1 : Addr} {v : V} {u : Value} (I : Inv X pins σ H ⟨hp, g, d, t, os⟩) (he : hp.objs.size ≤ e) (hd : hp.objs.size ≤ dx) (ne : dx ≠ e) (ru : RelV v u)
    (k : ∀ b o, hp.get? b = some o → h'.get? b = some o) (hx : h'.get? e = some { cls := .ref C, dict := some dx, data := .fields #[.ref t1, .none, .none, .none, .bool false, .none] }) (hn : h'.Ns1 dx (fun y => if y = f then some u else none)) :
    H dx = none ∧ H e = none ∧ Inv X pins σ (upd (upd H dx (exd dx [(f, v)])) e (exo e C (some dx))) ⟨h', g, d, tk, os⟩ := by
  have h1 : H dx = none := I.hok.fresh hd
  have h2 : H e = none := I.hok.fresh he
  have nE : ∀ {b : Addr} {o : Obj}, hp.get? b = some o → b ≠ e := fun z => Nat.ne_of_lt (Nat.lt_of_lt_of_le (Heap.lt_size z) he)
  have nD : ∀ {b : Addr} {o : Obj}, hp.get? b = some o → b ≠ dx := fun z => Nat.ne_of_lt (Nat.lt_of_lt_of_le (Heap.lt_size z) hd)
  have same : ∀ {b : Addr} {o : HO}, H b = some o → (upd (upd H dx (exd dx [(f, v)])) e (exo e C (some dx))) b = some o := fun {b o} z => by rw [upd_ne (ne_of_none z h2), upd_ne (ne_of_none z h1)]; exact z
  refine ⟨h1, h2, I.un (t' := tk) (h' := h') { keep := fun b o q _ _ _ => k b o q, slot := fun b o q _ _ _ => ⟨o.slots, k b o q⟩, free := fun b o q n _ => by rw [upd_ne (nE q), upd_ne (nD q)]; exact n, there := fun b o q _ => ⟨o, k b o q⟩, tups := fun b xs q => same q, frzs := fun b o w q => same q, tbls := fun b ps q => ⟨[].toArray, by rw [same q]; simp⟩ } fun b o q => ?_⟩
  by_cases hb : b = e
  · subst hb
    rw [upd_same] at q
    cases q
    exact exo_ok hx
  · rw [upd_ne hb] at q
    by_cases hbd : b = dx
    · subst hbd
      rw [upd_same] at q
      cases q
      exact exd_ok hn (relO_put (fs := []) ru fun g => True.intro)
    · rw [upd_ne hbd] at q
      exact (I.hok b o q).stay (fun c w _ z => k c w z) (fun c z => same z) fun c xs z => same z
/-- C(v), as data -/
theorem mkx_rp {W : Wd} {ι : Io} {L : LH} {v : V} {d : D} {e dx : Addr} (g : Good W ι L H) (r : Rp W ι (Lv ι L) H v d) (hc : W.mg c = some (.ref C)) (h1 : H dx = none) (h2 : H e = none) (ne : dx ≠ e) :
    Good W ι L (upd (upd H dx (exd dx [(f, v)])) e (exo e C (some dx))) ∧ Le ι L H ι L (upd (upd H dx (exd dx [(f, v)])) e (exo e C (some dx))) ∧ Rp W ι (Lv ι L) (upd (upd H dx (exd dx [(f, v)])) e (exo e C (some dx))) (.ref e) (.exn c f d) := by
  have g1 := g.laid (o := exd dx [(f, v)]) h1
  have l1 := Le.laid (o := exd dx [(f, v)]) g h1
  have h2' : upd H dx (exd dx [(f, v)]) e = none := by rw [upd_ne (Ne.symm ne)]; exact h2
  have g2 := g1.laid (o := exo e C (some dx)) h2'
  have l2 := Le.laid (o := exo e C (some dx)) g1 h2'
  exact ⟨g2, l1.trans l2, .exn hc upd_same (g.fresh h2) (by rw [upd_ne ne]; exact upd_same) (g.fresh h1) ((r.mono g l1).mono g1 l2)⟩
def mkX (c f : Str) (d : D) (L : LH) : Res D := .ok (.exn c f d) L
/-- the call itself, by position or by the keyword -/
theorem mkx_run {Q : VK} {k : Nat} (S : SupC X.prog X.K X.mg c pn f C) (hr : Room k X.A) (I : Inv X pins σ H s) {v : V} {u : Value} (ru : RelV v u) (by_kw : Bool)
    (h : ∀ e dx, H dx = none → H e = none → dx ≠ e → Q (.ref e) (upd (upd H dx (exd dx [(f, v)])) e (exo e C (some dx)))) :
    wpAny (model X.prog X.w) X.A (if by_kw then call (.ref C) [] [(pn, u)] else call (.ref C) [u]) (EP X pins σ Q) X.xe s := by
  obtain ⟨fI, cda, cc, oc, od, osl, name, qual, params, scope, kV, doc, pm, ct, an, p0, p1, p2, p3, p4, p5, p6, p7, p8, p9, ccl, cdd, ccs, vs, file, tf, cl, cld, csl, pl, iC, tI, SS, lk, hcd, hcode, hvs, hfile, htop, hcell, hsub, hsuper, ho, hm, hB, hev, b1, b2⟩ := S.fI
  obtain ⟨nm, q, N, bs, bm, sn, sub, ab, col, dd, k0, k1, k2, k3, k5, hC, hbm⟩ := S.T.cls
  obtain ⟨hp, g, d, t, os⟩ := s
  have X0 := I.kIn
  have hT : ∀ Y : String, bm.contains (.type Y) = _ := fun Y => PySem.HandSPX.refsVE_contains Y bm hbm
  have li := PySem.W.looks_findIn (M := model X.prog X.w) X0 iC
  have lb := fun self => PySem.W.bind_fn (M := model X.prog X.w) X0 self tI
  have core : ∀ (us : List Value) (kw : List (Str × Value)) (args : Args), args = ⟨.ref (hp.objs.size + 1) :: us, kw⟩ → (∀ s : Shared, BindsTo s (ksFn name qual params (supBody pn f p0 p1 p2 p3 p4 p5 p6 p7 p8 p9) scope .none kV doc pm an (.ref cda) ct cc) args [(("self" : Str), .ref (hp.objs.size + 1)), (pn, u)]) →
      codeAny (model X.prog X.w) (X.A.under (.builtin "type.__call__" ⟨.ref C :: us, kw⟩)) (.call (.ref fI) args) (PySem.W.InitBack (hp.objs.size + 1) (wants (EP X pins σ Q) X.xe)) ⟨(hp.push (PySem.W.kdv_tup us)).push (PySem.HandSPX.excO C hp.objs.size), g, d, t, os⟩ := by
    intro us kw args ea hb
    have kk : ∀ b o, hp.get? b = some o → ((hp.push (PySem.W.kdv_tup us)).push (PySem.HandSPX.excO C hp.objs.size)).get? b = some o := fun b o e => Heap.get?_push_of_some _ (Heap.get?_push_of_some _ e)
    have hget : ((hp.push (PySem.W.kdv_tup us)).push (PySem.HandSPX.excO C hp.objs.size)).get? (hp.objs.size + 1) = some (PySem.HandSPX.excO C hp.objs.size) := by heap_get
    refine init_raw I.ok.mod (fun b o z => kk _ _ (I.bk b o z)) SS S.T (by rw [make_depth]; have := hr.dp; omega) lk hcd hcode hvs hfile htop hcell hsub hsuper ho hm hB S.no (fun b o z => Nat.ne_of_lt (Nat.lt_succ_of_lt (Heap.lt_size (X0 _ _ z)))) hget (hb _) pl hev ?_
    intro h' dx t1 tk k1 k2 k3 k4 k5
    have sz : hp.objs.size ≤ dx := Nat.le_trans (by simp [Heap.size_push]; omega) k2
    obtain ⟨n1, n2, J⟩ := mkx_inv (tk := tk) (f := f) I (Nat.le_succ _) sz k3 ru (fun b o z => k1 b o (Nat.ne_of_lt (Nat.lt_succ_of_lt (Heap.lt_size z))) (kk _ _ z)) k4 k5
    exact ⟨rfl, ⟨V.ref (hp.objs.size + 1), _, J, rfl, h _ _ n1 n2 k3⟩⟩
  cases by_kw with
  | false =>
    refine wpAny_call (PySem.HandSPX.call_own F.excBase_ValueError hT (X0 _ _ hC) li lb (by show 1 ≤ sizeLine; decide) ?_)
    exact core [u] [] _ rfl fun s => .of_eq (b1 _ _)
  | true =>
    refine wpAny_call (callK F.excBase_ValueError hT (X0 _ _ hC) li lb ?_)
    exact core [] [(pn, u)] _ rfl fun s => .of_eq (b2 _ _)
section
variable {e : Expr} {fe : Ex} {p pos kpos : Pos} {k : Nat}
theorem pd_mkx (S : ∃ C, SupC X.prog X.K X.mg c pn f C) (hr : Room k X.A) (he : PD X e fe) (hg : Gl X c := by rfl) (hdb : (c == ("__debug__" : Str)) = false := by decide)
    (hs : starEach [e] X.env = (false, eval e X.env) :: starEach [] X.env := by rfl) (hpl : (backTo pos (starEach [] X.env)).any (·.1) = false := by rfl) :
    PD X (.Call (.Name c p) [e] [] pos) (e1 (mkX c f) fe) := by
  obtain ⟨C, S⟩ := S
  refine ⟨fun pins s σ H Q I q => ?_⟩
  refine wpAny_Call_Name_kw (ld_glob I hg S.mgc ?_ hdb)
  have ha : PDA X [e] [fe] := pda_cons he pda_nil hs
  refine PySem.W.callWith_K (h₀ := X.base) I.ok.mod.kin S.T.kC (thn (ha.run pos pins s σ H (fun vs H1 => ∃ v, vs = [v] ∧ ∀ e dx, H1 dx = none → H1 e = none → dx ≠ e → Q (.ref e) (upd (upd H1 dx (exd dx [(f, v)])) e (exo e C (some dx)))) I ?_) fun us s1 ⟨vs, H1, I1, r1, v, ev, q1⟩ => ⟨I1.kIn, ?_⟩) hs hpl
  · obtain ⟨ι, L, ρ, sa, d, L', hf, kk⟩ := q
    obtain ⟨x, L1, h1, hf⟩ := bind_inv hf
    cases hf
    refine ⟨ι, L, ρ, sa, [x], L', by simp only [eArgs, h1, bind_ok], fun vs ι1 H1 le1 g1 r1 => ?_⟩
    obtain ⟨v, ev, r⟩ := r1.inv1
    refine ⟨v, ev, fun e dx n1 n2 ne => ?_⟩
    obtain ⟨g2, le2, r2⟩ := mkx_rp (W := X.wd) (c := c) (f := f) g1 r S.mgc n1 n2 ne
    exact kk _ ι1 _ (le1.trans le2) g2 r2
  · subst ev
    cases r1 with
    | cons ru rn =>
      cases rn
      exact mkx_run S hr I1 ru false q1
theorem pd_mkxK (S : ∃ C, SupC X.prog X.K X.mg c pn f C) (hr : Room k X.A) (he : PD X e fe) (hg : Gl X c := by rfl) (hdb : (c == ("__debug__" : Str)) = false := by decide)
    (hall : (backToKw pos (keywordEach [⟨some pn, e, kpos⟩] X.env)).all (·.1.isSome) = true := by rfl) (hks : (backToKw pos (keywordEach [⟨some pn, e, kpos⟩] X.env)).filterMap (·.1) = [pn] := by rfl)
    (hpl : ((backTo pos (starEach [] X.env)).any (·.1) || (backToKw pos (keywordEach [⟨some pn, e, kpos⟩] X.env)).any (·.1.isNone)) = false := by rfl) :
    PD X (.Call (.Name c p) [] [⟨some pn, e, kpos⟩] pos) (e1 (mkX c f) fe) := by
  obtain ⟨C, S⟩ := S
  refine ⟨fun pins s σ H Q I q => ?_⟩
  refine wpAny_Call_Name_kw (ld_glob I hg S.mgc ?_ hdb)
  have hk : PK X [⟨some pn, e, kpos⟩] (tCons (wE X.wd fe) tNil) := pk_cons he pk_nil
  refine PySem.W.callWith_KW0 (h₀ := X.base) I.ok.mod.kin S.T.kC hall (thn (hk.run pos pins s σ H (fun vs H1 => ∃ v, vs = [v] ∧ ∀ e dx, H1 dx = none → H1 e = none → dx ≠ e → Q (.ref e) (upd (upd H1 dx (exd dx [(f, v)])) e (exo e C (some dx)))) I ?_) fun us s1 ⟨vs, H1, I1, r1, v, ev, q1⟩ => ⟨I1.kIn, ?_⟩) hpl
  · obtain ⟨ι, L, ρ, sa, d, L', hf, kk⟩ := q
    obtain ⟨x, L1, h1, hf⟩ := bind_inv hf
    cases hf
    refine ⟨ι, L, ρ, sa, x, L', h1, fun v ι1 H1 le1 g1 r => ⟨v, rfl, fun e dx n1 n2 ne => ?_⟩⟩
    obtain ⟨g2, le2, r2⟩ := mkx_rp (W := X.wd) (c := c) (f := f) g1 r S.mgc n1 n2 ne
    exact kk _ ι1 _ (le1.trans le2) g2 r2
  · subst ev
    cases r1 with
    | cons ru rn =>
      cases rn
      rw [hks]
      exact mkx_run S hr I1 ru true q1
/-! ### C(), no __init__ of its own -/
structure Exc0 (K : PySem.W.Frag) (mg : Str → Option Value) (c : Str) (C : Addr) : Prop where
  mgc : mg c = some (.ref C)
  ex : PySem.W.excIn K C [.type "ValueError", .type "Exception", .type "BaseException", .type "object"] "ValueError.__new__" = true
  kC : PySem.W.keepIn K (.ref C) = true
theorem pd_mkx0 (S : ∃ C, Exc0 X.K X.mg c C) (hg : Gl X c := by rfl) (hdb : (c == ("__debug__" : Str)) = false := by decide) : PD X (.Call (.Name c p) [] [] pos) (eC (.exn0 c)) := by
  obtain ⟨C, S⟩ := S
  refine ⟨fun pins s σ H Q I ⟨ι, L, ρ, sa, d, L', hf, kk⟩ => ?_⟩
  cases hf
  refine wpAny_Call_Name_kw (ld_glob I hg S.mgc ?_ hdb)
  refine PySem.W.callWith_K0 I.kIn S.kC ?_
  obtain ⟨bm, N, nm, qn, bs, hdct, sn, sub, ab, col, dd, k0, k1, k2, k3, k5, mN, hC, hN, hni, T⟩ := exc_obj I.kIn S.ex
  refine wpAny_call_exc_subT F.excBase_ValueError T hC hN hni (fun h' a hm => ?_) (by show 0 ≤ sizeLine; decide)
  have hn : H a = none := I.hok.gone hm.new
  obtain ⟨t, ht, _, _⟩ := hm.there
  have g1 := sa.g.laid (o := exo a C none) hn
  have l1 := Le.laid (o := exo a C none) sa.g hn
  exact ⟨.ref a, upd H a (exo a C none), I.laidN hm.keeps hm.new hn (exo_ok ht), rfl, kk _ ι _ l1 g1 (.exn0 S.mgc upd_same (sa.g.fresh hn))⟩
end
end
end Cz
set_option linter.all false
set_option autoImplicit false
set_option maxRecDepth 100000
set_option maxHeartbeats 2000000
/-! The data layer: what is read off an exception, what is asked of its class. -/
namespace Cz
open PySem PySem.Spec L2
/-- a class that isinstance is asked of, by its name: own ones, built-in ones -/
inductive TyK where
  | own (x : Str) | blt (n : String)
  deriving DecidableEq
def tyVal (mg : Str → Option Value) : TyK → Value → Prop
  | .own x, u => ∃ T, mg x = some (.ref T) ∧ u = .ref T
  | .blt n, u => u = .type n
/-- what is known of the exception classes cs: their instances' fields fs, the answers of isinstance over ts -/
structure ExA (K : PySem.W.Frag) (mg : Str → Option Value) (cs fs : List Str) (ts : List TyK) (tab : Str → TyK → Bool) : Prop where
  xf : ∀ c ∈ cs, ∀ C, mg c = some (.ref C) → XfC K C ∧ ExcC K C ∧ ∀ f ∈ fs, PySem.W.findIn K (.ref C) f = some none
  is : ∀ c ∈ cs, ∀ C, mg c = some (.ref C) → ∀ t ∈ ts, ∀ u, tyVal mg t u → PySem.W.kitOne K (.ref C) u = some (tab c t)
def exF (cs fs : List Str) (f : Str) (x : D) (L : LH) : Res D := match x with
  | .exn c g d => if c ∈ cs ∧ f ∈ fs ∧ g = f then .ok d L else .bad
  | _ => .bad
def exN : D → Option Str
  | .exn c _ _ => some c
  | .exn0 c => some c
  | _ => none
def tyKey : D → Option TyK
  | .fn x => some (.own x)
  | .ty n => some (.blt n)
  | _ => none
def tyKeys : List D → Option (List TyK)
  | [] => some []
  | x :: xs => (tyKey x).bind fun k => (tyKeys xs).map (k :: ·)
def isxD (cs : List Str) (ts : List TyK) (tab : Str → TyK → Bool) (x y : D) (L : LH) : Res D := match exN x with
  | none => .bad
  | some c => if c ∈ cs then (match y with
    | .tup ys => (match tyKeys ys with
      | some ks => if ∀ k ∈ ks, k ∈ ts then .ok (.bl (ks.any (tab c))) L else .bad
      | none => .bad)
    | y => (match tyKey y with
      | some k => if k ∈ ts then .ok (.bl (tab c k)) L else .bad
      | none => .bad)) else .bad
section
variable {X : Cx} {cs fs : List Str} {ts : List TyK} {tab : Str → TyK → Bool} {e : Expr} {fe : Ex} {n : Str} {pos : Pos}
theorem pd_exf (Z : ExA X.K X.mg cs fs ts tab) (he : PD X e fe) (hb : attributeBase e n X.env (eval e X.env) = eval e X.env := by rfl) : PD X (.Attribute e n pos) (e1 (exF cs fs n) fe) := by
  refine ⟨fun pins s σ H Q I q => ?_⟩
  refine attr_of hb (thn (he.run pins s σ H (fun x H1 => ∃ a C dd v, x = .ref a ∧ XfC X.K C ∧ PySem.W.findIn X.K (.ref C) n = some none ∧ H1 a = some (exo a C (some dd)) ∧ H1 dd = some (exd dd [(n, v)]) ∧ Q v H1) I ?_) fun u s1 hh => ?_)
  · refine one q fun ι L H x dx d L' g rx hf k => ?_
    unfold exF at hf
    split at hf
    · obtain ⟨⟨h1, h2, h3⟩, hg⟩ := if_inv hf
      clear hf
      subst h3
      cases hg
      cases rx with
      | exn hc ha na hd nd r =>
        obtain ⟨z1, _, z3⟩ := Z.xf _ h1 _ hc
        exact ⟨_, _, _, _, rfl, z1, z3 _ h2, ha, hd, k.now g r⟩
    · cases hf
  · obtain ⟨x, H1, I1, rx, a, C, dd, v, ex, T, hno, ea, ed, q⟩ := hh
    subst ex
    obtain rfl : u = Value.ref a := rx
    obtain ⟨t1, ho⟩ := exo_at I1.hok ea
    obtain ⟨mA, hns, rel⟩ := exd_at I1.hok ed
    obtain ⟨od, hod, hl⟩ := lookIn_ns hns
    obtain ⟨w, hw, rw'⟩ := RelO.some_of (v := v) (o := mA n) (by have z := rel n; simpa [List.lookup] using z)
    have J : PySem.W.InstAt s1.heap a _ C (some od) := ⟨ho, rfl, rfl, hod⟩
    exact HandSPX.exc_get I1.kIn J T.ga T.gg T.exC (PySem.W.findObj_own T.hdC hno rfl (by rw [hl, hw])) (handed_of rw') ⟨v, H1, I1.tok _, rw', q⟩
theorem tyVal_of {W : Wd} {ι : Io} {lv : Addr → Prop} {H : Hp} {v : V} {d : D} {k : TyK} {u : Value} (r : Rp W ι lv H v d) (h : tyKey d = some k) (ru : RelV v u) : tyVal W.mg k u := by
  cases d <;> first | (simp [tyKey] at h; done) | skip
  all_goals (simp only [tyKey] at h; cases h)
  · cases r; exact ru
  · cases r with
    | fn hm => exact ⟨_, hm, ru⟩
theorem kitAny_of {K : PySem.W.Frag} {mg : Str → Option Value} {c : Str} {C : Addr} (Z : ExA K mg cs fs ts tab) (hc : c ∈ cs) (hC : mg c = some (.ref C)) {ι : Io} {lv : Addr → Prop} {H : Hp} : ∀ {vs : List V} {ys : List D} {us : List Value} {ks : List TyK}, RpA ⟨K, mg⟩ ι lv H vs ys → tyKeys ys = some ks → Vals vs us → (∀ k ∈ ks, k ∈ ts) → PySem.W.kitAny K (.ref C) us = some (ks.any (tab c))
  | _, _, _, _, .nil, h, .nil, _ => by simp only [tyKeys] at h; cases h; rfl
  | _, _, _, ks, .cons r rs, h, .cons ru rus, hk => by
    simp only [tyKeys] at h
    obtain ⟨k, h1, h⟩ := Option.bind_eq_some_iff.mp h
    obtain ⟨ks', h2, h⟩ := Option.map_eq_some_iff.mp h
    subst h
    have e1 := Z.is c hc C hC k (hk k (List.mem_cons_self ..)) _ (tyVal_of r h1 ru)
    have e2 := kitAny_of Z hc hC rs h2 rus fun k hk' => hk k (List.mem_cons_of_mem _ hk')
    unfold PySem.W.kitAny
    rw [e1]
    cases hb : tab c k with
    | true => simp [hb]
    | false => simp [hb, e2]
theorem oc_isx (Z : ExA X.K X.mg cs fs ts tab) : OpC X (.builtin "isinstance") (f2 (isxD cs ts tab)) := by
  intro pins s σ H xs us Q I rv ⟨ι, L, ds, d, L', g, rr, hf, k⟩
  obtain ⟨x, y, ex, hg⟩ := f2_inv hf
  subst ex
  clear hf
  obtain ⟨v, v2, ev, r, r2⟩ := rr.inv2
  subst ev
  clear rr
  cases rv with
  | cons ru rn => cases rn with
    | cons ru2 rn =>
      cases rn
      unfold isxD at hg
      cases hx : exN x with
      | none => rw [hx] at hg; cases hg
      | some c =>
        rw [hx] at hg
        obtain ⟨hc, hg1⟩ := if_inv hg
        clear hg
        -- the instance
        have inst : ∃ (a C : Addr) (ox : Obj) (od : Option Obj), v = .ref a ∧ X.mg c = some (.ref C) ∧ PySem.W.InstAt s.heap a ox C od := by
          cases x <;> first | (simp [exN] at hx; done) | skip
          all_goals (simp only [exN] at hx; cases hx)
          · cases r with
            | exn hm ha _ hd _ _ =>
              obtain ⟨t1, ho⟩ := exo_at I.hok ha
              obtain ⟨mA, hns, _⟩ := exd_at I.hok hd
              obtain ⟨od, hod, _⟩ := lookIn_ns hns
              exact ⟨_, _, _, some od, rfl, hm, ho, rfl, rfl, hod⟩
          · cases r with
            | exn0 hm ha _ =>
              obtain ⟨t1, ho⟩ := exo_at I.hok ha
              exact ⟨_, _, _, none, rfl, hm, ho, rfl, rfl, trivial⟩
        obtain ⟨a, C, ox, od, rfl, hm, J⟩ := inst
        obtain ⟨_, E1, _⟩ := Z.xf c hc C hm
        obtain rfl : _ = Value.ref a := ru
        have hcl : (PySem.W.clsIn X.K C).isSome = true := by
          obtain ⟨cd, hcd, _⟩ := PySem.W.any_some E1.hd
          rw [hcd]; rfl
        have kz := PySem.W.kitx_exc (x := a) (od := od) (ox := ox) hcl E1.hg E1.hk E1.hs E1.ha E1.hn E1.ht E1.hm
        split at hg1
        · rename_i ys
          cases hk : tyKeys ys with
          | none => rw [hk] at hg1; cases hg1
          | some ks =>
            rw [hk] at hg1
            obtain ⟨hin, hg2⟩ := if_inv hg1
            clear hg1
            cases hg2
            obtain ⟨p, vs, rfl, ht, ra⟩ := r2.seeT (L := L) rfl
            obtain rfl : _ = Value.ref p := ru2
            obtain ⟨its, rv, ⟨ot, hot, hoc, m, hod⟩, _⟩ := I.tuple ht
            obtain ⟨oc, odd, odt, osl⟩ := ot
            simp only at hoc hod
            subst hoc hod
            exact PySem.W.kia_tup kz I.kIn J hot (kitAny_of Z hc hm ra hk rv hin) (fun z => nomatch z) fun tk => ⟨.bl _, H, I.kept (t' := tk) fun _ _ z => z, rfl, k.now g (.bl _)⟩
        · cases hk : tyKey y with
          | none => rw [hk] at hg1; cases hg1
          | some kk =>
            rw [hk] at hg1
            obtain ⟨hin, hg2⟩ := if_inv hg1
            clear hg1
            cases hg2
            exact PySem.W.kia_one kz I.kIn J (Z.is c hc C hm kk hin _ (tyVal_of r2 hk ru2)) (fun z => nomatch z) fun tk => ⟨.bl _, H, I.kept (t' := tk) fun _ _ z => z, rfl, k.now g (.bl _)⟩
end
end Cz
set_option linter.all false
set_option autoImplicit false
set_option maxRecDepth 100000
/-! The data layer: the end of a law row. -/
namespace Cz
open PySem PySem.Spec PyProof.Rows L2
section
variable {P : Program} {w : World} {K : PySem.W.Frag} {mg mb : Str → Option Value} {k : Nat} {fa a : Addr} {fd : FuncData} {x : Str} {F : Fu} {s : Shared} {vs : List Value} {ns : List Int}
open Classical in
/-- the script alone is told -/
noncomputable def hScr (K : PySem.W.Frag) (a : Addr) (vs : List Value) (ns : List Int) : Hp := fun b => if b = a ∧ K.lookup a = none then some (.frz { cls := .type "list", data := .seq vs.toArray } (.lst (ns.map V.int))) else none
theorem hScr_inv {b : Addr} {u : HO} (h : hScr K a vs ns b = some u) : b = a ∧ K.lookup a = none ∧ u = .frz { cls := .type "list", data := .seq vs.toArray } (.lst (ns.map V.int)) := by
  unfold hScr at h
  by_cases c : b = a ∧ K.lookup a = none
  · rw [if_pos c] at h; cases h; exact ⟨c.1, c.2, rfl⟩
  · rw [if_neg c] at h; cases h
theorem endG (KX : K.In s.heap) (hns : s.heap.Ns mainGlobals mg) (hb : s.heap.Ns builtinsNs mb) (hbb : ∀ x : Str, x ≠ "__name__" → mb x = bootBuiltins x) (hlim : s.heap.NoLimit) (hg : s.gens = #[])
    (ha : s.heap.get? a = some { cls := .type "list", data := .seq vs.toArray }) (hi : IntsAre vs ns) (hl : ns.length ≤ sizeLine) (hr : Room k callerA)
    (hF : ∀ base : Heap, K.In base → base.Ns mainGlobals mg → FnG P w K mg base k fa fd [x] (spD ⟨K, mg⟩ 1 F)) (hbind : ∀ (s : Shared) (u : Value), BindsTo s fd ⟨[u], []⟩ [(x, u)])
    (hlaw : ∃ L', F [.scr ns] [] = .ok (.bl true) L') :
    codeAny (model P w) callerA (.call (.ref fa) ⟨[.ref a], []⟩) (fun r s' => r = .ok (.ret (.bool true)) ∧ OldK s.heap s'.heap ∧ s'.os = s.os ∧ AllBare s'.gens) s := by
  obtain ⟨L', hlaw⟩ := hlaw
  have rv := vals_ints hi
  have at_ : ∀ {b : Addr} {o : Obj}, s.heap.get? b = some o → (∀ ws n, o.data ≠ .seq ws n) → hScr K a vs ns b = none := fun {b o} e h => by
    cases q : hScr K a vs ns b with
    | none => rfl
    | some u =>
      obtain ⟨e1, _, _⟩ := hScr_inv q
      rw [e1, ha] at e
      cases e
      exact absurd rfl (h _ _)
  have nsK : ∀ {b : Addr} {m : Str → Option Value}, s.heap.Ns b m → (hidT s.heap (hScr K a vs ns)).Ns b m := fun {b m} ⟨o, es, ep, e, d, r⟩ => ⟨o, es, ep, hidT_get e (at_ e fun ws n z => by rw [d] at z; cases z), d, r⟩
  have hKb : K.In (hidT s.heap (hScr K a vs ns)) := fun b o e => hidT_get (KX b o e) (by
    cases q : hScr K a vs ns b with
    | none => rfl
    | some u =>
      obtain ⟨e1, e2, _⟩ := hScr_inv q
      rw [e1, e2] at e
      cases e)
  have hok : HOk P w (hScr K a vs ns) s.heap := fun b u q => by
    obtain ⟨e1, _, e3⟩ := hScr_inv q
    subst e1 e3
    exact ⟨ha, by rw [List.length_map]; exact hl, vs, _, rv, ha⟩
  have e0 : Env0 P w K mg (hidT s.heap (hScr K a vs ns)) callerA [] s (hScr K a vs ns) :=
    ⟨rfl, ⟨hKb, nsK hns, ⟨mb, nsK hb, hbb⟩, let ⟨mc, h1, h2⟩ := hlim; ⟨mc, nsK h1, h2⟩⟩, fun b o e => of_hidT e, Nat.le_of_eq (hidT_size _ _), trivial, fun b hb => absurd (show b ∈ ([] : List Addr) from hb) (by simp), hok, .of_eq hg⟩
  have good : Good ⟨K, mg⟩ ⟨fun _ => none, fun _ => False⟩ [] (hScr K a vs ns) := ⟨fun _ _ _ h => (nomatch h), fun _ _ h => (nomatch h), fun _ _ h => (nomatch h), fun _ h => False.elim h, fun _ _ h => (nomatch h), fun _ _ h => by simp at h⟩
  have scr : ScrAt K (hScr K a vs ns) a (ns.map V.int) := by
    cases hk : K.lookup a with
    | none => exact .inl ⟨_, if_pos ⟨rfl, hk⟩⟩
    | some o =>
      have e := KX a o hk
      rw [ha] at e
      cases e
      exact .inr ⟨_, vs.toArray, _, hk, rfl, rfl, rfl, by rw [List.size_toArray, hi.length]; exact hl, by simpa using rv⟩
  refine codeAny_mono ((hF _ hKb (nsK hns)).run callerA [] s (hScr K a vs ns) ⟨[.ref a], []⟩ [.ref a] [.ref a] (fun v _ => v = .bl true) hr rfl e0 (hbind s (.ref a)) (.cons rfl .nil)
    ⟨rfl, _, _, [.scr ns], _, L', good, .cons (.scr scr) .nil, hlaw, fun v ι' H' _ _ r => r.bl_inv⟩) fun r s' h => ?_
  cases r with
  | error e => exact False.elim h
  | ok fl =>
    cases fl with
    | next => exact False.elim h
    | brk => exact False.elim h
    | cont => exact False.elim h
    | ret u =>
      obtain ⟨v, H', os, bare, un, hok', r', q⟩ := h
      have q' : v = .bl true := q
      subst q'
      obtain rfl : u = Value.bool true := r'
      refine ⟨rfl, OldK.of_keep fun b o e => ?_, os, bare⟩
      cases q : hScr K a vs ns b with
      | none => exact un.keep b o e q (fun z => absurd (show b ∈ ([] : List Addr) from z) (by simp)) (by simp)
      | some u =>
        obtain ⟨_, _, e3⟩ := hScr_inv q
        subst e3
        obtain ⟨y1, _⟩ := hok b _ q
        obtain ⟨y2, _⟩ := hok' b _ (un.frzs b _ _ q)
        rw [e] at y1
        cases y1
        exact y2
end
/-- the law's row, from its def's meaning -/
theorem walkD {l : PySem.W.OpenLaw} {n k : Nat} {q : Program} {loose : List Str} {XP : (Str → Option Value) → Heap → Prop} {YP : World → Heap → Prop} {d : DefRec} {x : Str} {Fl : Fu}
    (hn : l.most = some n) (hn2 : n ≤ sizeLine) (hdf : d.params.defaults = []) (hr : Room k callerA)
    (F : ∀ (w : World) (mg : Str → Option Value) (fa : Addr) (h : Heap), YP w h → h.Ns mainGlobals mg → mg d.name = some (.ref fa) →
      ∃ (K : PySem.W.Frag) (fd : FuncData), K.In h ∧ (∀ (s : Shared) (u : Value), BindsTo s fd ⟨[u], []⟩ [(x, u)]) ∧
        ∀ base : Heap, K.In base → base.Ns mainGlobals mg → FnG l.prog w K mg base k fa fd [x] (spD ⟨K, mg⟩ 1 Fl))
    (hlaw : ∀ ns : List Int, ns.length ≤ n → (∀ i ∈ ns, Builtin.Int.intBits i ≤ 1048576) → ∃ L', Fl [.scr ns] [] = .ok (.bl true) L') :
    PySem.W.WalkO q loose XP YP l.row.toRowW d [] (fun f vs => PySem.call f vs) := by
  refine Att.attach_callB hn hdf fun w s₀ s₁ mg mb fa o pm cd doc a vs ns G Y ho hd hcd hmg hobj hints hlen hbits hg => ?_
  obtain ⟨K, fd, KX, hb, hF⟩ := F w mg fa _ Y G.T.g hmg
  exact endG KX G.T.g G.T.b G.T.builtins G.T.nolimit hg hobj hints (Nat.le_trans hlen hn2) hr hF hb (hlaw ns hlen hbits)
end Cz
set_option linter.all false
set_option autoImplicit false
set_option maxRecDepth 100000
/-! The data layer: what the head tells, exception classes among it. -/
namespace Cz
open PySem PySem.Spec PyProof.Rows L2 He
open PySem.W (ksFn ks_superIn clsIn codeIn nsIn mroIn subIn findIn typeIn keepIn)
/-- a def that says super(): name, qualified name, parameters, body, scope, globals, builtins -/
abbrev SupW := Option (Str × Str × Arguments × FuncBody × Scope × Addr × Addr)
def supW (K : PySem.W.Frag) (c : Str) : SupW := match K.lookup (ma K (ga K c) "__init__") with
  | some ⟨_, _, .func fd, _⟩ => some (fd.name, fd.qualname, fd.params, fd.body, fd.scope, fd.globals, fd.builtins)
  | _ => none
/-- the class itself -/
def clsB (K : PySem.W.Frag) (C : Addr) : Bool := match K.lookup C with
  | some ⟨.type t, _, .cls cd, sl⟩ => (match cd.mro, sl.toList with
    | .ref C' :: bm, [_, _, _, _, some (.builtin n), _] => decide (t = "type") && (decide (C' = C) && (HandSPX.refsVE bm && (cd.hasDict && (!cd.hasDel && decide (n = "ValueError.__new__")))))
    | _, _ => false)
  | _ => false
def oexB (K : PySem.W.Frag) (C : Addr) : Bool := clsB K C && (decide (findIn K (.ref C) "__setattr__" = some (some (.builtin "object.__setattr__"))) && (decide (subIn K (.ref C) (.type "BaseException") = some true) && (decide (typeIn K (.ref C) = some (.type "type")) && keepIn K (.ref C))))
theorem oexB_ok {K : PySem.W.Frag} {C : Addr} (h : oexB K C = true) : OexC K C := by
  obtain ⟨h1, h⟩ := ba h
  obtain ⟨h2, h⟩ := ba h
  obtain ⟨h3, h⟩ := ba h
  obtain ⟨h4, h5⟩ := ba h
  refine ⟨?_, of_decide_eq_true h2, of_decide_eq_true h3, of_decide_eq_true h4, h5⟩
  unfold clsB at h1
  cases q : K.lookup C with
  | none => rw [q] at h1; cases h1
  | some o =>
    obtain ⟨oc, od, dt, sl⟩ := o
    rw [q] at h1
    cases oc <;> first | (cases dt <;> cases h1; done) | skip
    cases dt <;> first | (cases h1; done) | skip
    rename_i t cd
    obtain ⟨nm, bs, mro, ns, qn, hd, sn, sub, ab, col, del⟩ := cd
    obtain ⟨sl⟩ := sl
    simp only at h1
    split at h1
    · rename_i C' bm k0 k1 k2 k3 n k5
      obtain ⟨e0, h1⟩ := ba h1
      obtain ⟨e1, h1⟩ := ba h1
      obtain ⟨e2, h1⟩ := ba h1
      obtain ⟨e3, h1⟩ := ba h1
      obtain ⟨e4, e5⟩ := ba h1
      have e0 := of_decide_eq_true e0
      have e1 := of_decide_eq_true e1
      have e5 := of_decide_eq_true e5
      have e4 : del = false := by cases del <;> simp_all
      subst e0 e1 e3 e4 e5
      exact ⟨nm, qn, ns, bs, bm, sn, sub, ab, col, od, k0, k1, k2, k3, k5, rfl, e2⟩
    · cases h1
def cellB (K : PySem.W.Frag) (C cc : Addr) : Bool := match K.lookup cc with
  | some ⟨_, _, .cell (some (.ref C')), _⟩ => decide (C' = C)
  | _ => false
theorem cellB_ok {K : PySem.W.Frag} {C cc : Addr} (h : cellB K C cc = true) : ∃ cl cld csl, K.lookup cc = some ⟨cl, cld, .cell (some (.ref C)), csl⟩ := by
  unfold cellB at h
  split at h
  · rename_i e
    have z := of_decide_eq_true h
    subst z
    exact ⟨_, _, _, e⟩
  · cases h
def strB (s : Str) : Option Value → Bool
  | some (.str file _) => s == file
  | _ => false
theorem strB_ok {s : Str} {v : Option Value} (h : strB s v = true) : ∃ file t, v = some (.str file t) ∧ (s == file) = true := by
  unfold strB at h
  split at h
  · exact ⟨_, _, rfl, h⟩
  · cases h
def fileB (s : Str) (K : PySem.W.Frag) (cda : Addr) : Bool := match K.lookup cda with
  | some ⟨_, _, .fields vs, _⟩ => strB s vs[2]?
  | _ => false
theorem fileB_ok {s : Str} {K : PySem.W.Frag} {cda : Addr} (h : fileB s K cda = true) : ∃ ccl cdd vs ccs file t, K.lookup cda = some ⟨ccl, cdd, .fields vs, ccs⟩ ∧ vs[2]? = some (.str file t) ∧ (s == file) = true := by
  unfold fileB at h
  split at h
  · rename_i e
    obtain ⟨file, t, h1, h2⟩ := strB_ok h
    exact ⟨_, _, _, _, file, t, e, h1, h2⟩
  · cases h
def supF (s : Str) (K : PySem.W.Frag) (C : Addr) (fd : FuncData) : Bool := match fd.closure, fd.code, fd.defaults with
  | [(x, cc)], .ref cda, .none => decide (x = ("__class__" : Str)) && (codeIn K (.ref cda) fd.qualname && (cellB K C cc && fileB s K cda))
  | _, _, _ => false
theorem supF_ok {s : Str} {K : PySem.W.Frag} {C : Addr} {fd : FuncData} (h : supF s K C fd = true) : ∃ cc cda, fd.closure = [(("__class__" : Str), cc)] ∧ fd.code = .ref cda ∧ fd.defaults = .none ∧ codeIn K (.ref cda) fd.qualname = true ∧ cellB K C cc = true ∧ fileB s K cda = true := by
  unfold supF at h
  split at h
  · rename_i x cc cda e1 e2 e3
    obtain ⟨g1, h⟩ := ba h
    obtain ⟨g2, h⟩ := ba h
    obtain ⟨g3, g4⟩ := ba h
    have z := of_decide_eq_true g1
    subst z
    exact ⟨cc, cda, e1, e2, e3, g2, g3, g4⟩
  · cases h
def supO (s : Str) (K : PySem.W.Frag) (C : Addr) : Option Obj → Bool
  | some ⟨_, _, .func fd, _⟩ => supF s K C fd
  | _ => false
/-- its __init__: what the function object holds beside the text -/
def supB (P : Program) (K : PySem.W.Frag) (c f : Str) : Bool := oexB K (ga K c) && (decide (findIn K (.ref (ga K c)) f = some none) && (decide (findIn K (.ref (ga K c)) "__init__" = some (some (.ref (ma K (ga K c) "__init__")))) &&
  (decide (typeIn K (.ref (ma K (ga K c) "__init__")) = some (.type "function")) && (decide (mroIn K (ga K c) (.ref (ga K c)) = some true) && (decide (nsIn K cStatics "thirdparty.any" = some none) &&
  (decide (ks_superIn K (ga K c) (ga K c) "__init__" = some (some (.builtin "ValueError.__init__"))) && (decide (subIn K (.ref (ga K c)) (.type "ValueError") = some true) && supO (P.main.file : Str) K (ga K c) (K.lookup (ma K (ga K c) "__init__")))))))))
/-- what the text of such an __init__ shows -/
structure SupT (st : Stmt) (pn f : Str) : Prop where
  ex : ∃ (p0 p1 p2 p3 p4 p5 p6 p7 p8 p9 : Pos) (pl : Env → Sem Bool), defBody st = supBody pn f p0 p1 p2 p3 p4 p5 p6 p7 p8 p9 ∧
    (∀ env : Env, eval (.Call (.Attribute (.Call (.Name "super" p0) [] [] p1) "__init__" p2) [.Name pn p3] [] p4) env = (do
      let ov ← attributeBase (.Call (.Name "super" p0) [] [] p1) "__init__" env (eval (.Call (.Name "super" p0) [] [] p1) env)
      standAt p2.atName
      let (f, first) ← holding [ov] (getMethod ov "__init__" (pl env))
      callWith p4 f first (backTo p4 (starEach [.Name pn p3] env)) []))
  scope : SupScope pn (defArgs st) (defScope st)
  b1 : ∀ (name qual : Str) (body : List Stmt) (kV doc pm : Value) (an : Option Addr) (cdv ct : Value) (cc : Addr) (e u : Value), bindArgs (ksFn name qual (defArgs st) body (defScope st) .none kV doc pm an cdv ct cc) ⟨[e, u], []⟩ = pure [(("self" : Str), e), (pn, u)]
  b2 : ∀ (name qual : Str) (body : List Stmt) (kV doc pm : Value) (an : Option Addr) (cdv ct : Value) (cc : Addr) (e u : Value), bindArgs (ksFn name qual (defArgs st) body (defScope st) .none kV doc pm an cdv ct cc) ⟨[e], [(pn, u)]⟩ = pure [(("self" : Str), e), (pn, u)]
theorem supB_ok {P : Program} {K : PySem.W.Frag} {mg : Str → Option Value} {c pn f : Str} {st : Stmt} {name qual : Str} (h : supB P K c f = true) (w : supW K c = some (name, qual, defArgs st, .stmts (defBody st), defScope st, mainGlobals, builtinsNs)) (T : SupT st pn f)
    (hm : mg c = some (.ref (ga K c))) (hs : mg "super" = none) (htop : (P.main.scope.names.lookup ("super" : Str)).isSome = false) : SupC P K mg c pn f (ga K c) := by
  obtain ⟨h1, h⟩ := ba h
  obtain ⟨h2, h⟩ := ba h
  obtain ⟨h3, h⟩ := ba h
  obtain ⟨h4, h⟩ := ba h
  obtain ⟨h5, h⟩ := ba h
  obtain ⟨h6, h⟩ := ba h
  obtain ⟨h7, h⟩ := ba h
  obtain ⟨h8, h⟩ := ba h
  refine ⟨hm, oexB_ok h1, of_decide_eq_true h2, ?_⟩
  unfold supW at w
  cases q : K.lookup (ma K (ga K c) "__init__") with
  | none => rw [q] at w; cases w
  | some o =>
    obtain ⟨oc, od, dt, osl⟩ := o
    rw [q] at w h
    cases dt <;> first | (cases w; done) | skip
    rename_i fd
    obtain ⟨n1, n2, n3, n4, n5, n6, n7, n8, n9, n10, n11, n12, n13, n14, n15⟩ := fd
    simp only [Option.some.injEq, Prod.mk.injEq] at w
    obtain ⟨rfl, rfl, rfl, rfl, rfl, rfl, rfl⟩ := w
    obtain ⟨cc, cda, e1, e2, e3, g2, g3, g4⟩ := supF_ok (show supF (P.main.file : Str) K (ga K c) _ = true from h)
    simp only at e1 e2 e3 g2
    subst e1 e2 e3
    obtain ⟨cl, cld, csl, lc⟩ := cellB_ok g3
    obtain ⟨ccl, cdd, vs, ccs, file, tf, lcode, hvs, hfile⟩ := fileB_ok g4
    obtain ⟨p0, p1, p2, p3, p4, p5, p6, p7, p8, p9, pl, eb, hev⟩ := T.ex
    exact ⟨_, cda, cc, oc, od, osl, n1, n2, defArgs st, defScope st, _, _, _, _, _, p0, p1, p2, p3, p4, p5, p6, p7, p8, p9, ccl, cdd, ccs, vs, file, tf, cl, cld, csl, pl,
      of_decide_eq_true h3, of_decide_eq_true h4, T.scope, by rw [← eb]; exact q, g2, lcode, hvs, hfile, htop, lc, of_decide_eq_true h5, hs, of_decide_eq_true h6, of_decide_eq_true h7, of_decide_eq_true h8, hev, fun e u => T.b1 _ _ _ _ _ _ _ _ _ _ e u, fun e u => T.b2 _ _ _ _ _ _ _ _ _ _ e u⟩
def exc0B (K : PySem.W.Frag) (c : Str) : Bool := PySem.W.excIn K (ga K c) [.type "ValueError", .type "Exception", .type "BaseException", .type "object"] "ValueError.__new__" && keepIn K (.ref (ga K c))
theorem exc0B_ok {K : PySem.W.Frag} {mg : Str → Option Value} {c : Str} (h : exc0B K c = true) (hm : mg c = some (.ref (ga K c))) : Exc0 K mg c (ga K c) := ⟨hm, (ba h).1, (ba h).2⟩
def excCB (K : PySem.W.Frag) (D : Addr) : Bool := decide (findIn K (.ref D) "__getattribute__" = some (some (.builtin "BaseException.__getattribute__"))) && (decide (findIn K (.ref D) "__getattr__" = some none) && (decide (subIn K (.ref D) (.type "BaseException") = some true) &&
  (PySem.W.hasDictIn K D && (decide (findIn K (.ref D) "__class__" = some (some (.builtin "object.__class__"))) && (decide (PySem.W.specialIn K (.builtin "object.__class__") "__get__" = some (some (.builtin "getset_descriptor.__get__"))) &&
  (decide (PySem.W.takesIn K (.builtin "object.__class__") = some true) && decide (mroIn K D (.type "object") = some true)))))))
theorem excCB_ok {K : PySem.W.Frag} {D : Addr} (h : excCB K D = true) : ExcC K D := by
  obtain ⟨h1, h⟩ := ba h
  obtain ⟨h2, h⟩ := ba h
  obtain ⟨h3, h⟩ := ba h
  obtain ⟨h4, h⟩ := ba h
  obtain ⟨h5, h⟩ := ba h
  obtain ⟨h6, h⟩ := ba h
  obtain ⟨h7, h8⟩ := ba h
  exact ⟨of_decide_eq_true h1, of_decide_eq_true h2, of_decide_eq_true h3, h4, of_decide_eq_true h5, of_decide_eq_true h6, of_decide_eq_true h7, of_decide_eq_true h8⟩
def tyAt (K : PySem.W.Frag) : TyK → Value
  | .own x => .ref (ga K x)
  | .blt n => .type n
def exaB (K : PySem.W.Frag) (cs fs : List Str) (ts : List TyK) (tab : Str → TyK → Bool) : Bool := cs.all fun c => xfB K (ga K c) && (excCB K (ga K c) && ((fs.all fun f => decide (findIn K (.ref (ga K c)) f = some none)) && ts.all fun t => decide (PySem.W.kitOne K (.ref (ga K c)) (tyAt K t) = some (tab c t))))
theorem exaB_ok {K : PySem.W.Frag} {mg : Str → Option Value} {cs fs : List Str} {ts : List TyK} {tab : Str → TyK → Bool} (h : exaB K cs fs ts tab = true) (hm : ∀ c ∈ cs, mg c = some (.ref (ga K c))) (hT : ∀ x, TyK.own x ∈ ts → mg x = some (.ref (ga K x))) : ExA K mg cs fs ts tab := by
  have h := List.all_eq_true.mp h
  refine ⟨fun c hc C hC => ?_, fun c hc C hC t ht u hu => ?_⟩
  · have e := (hm c hc).symm.trans hC
    cases e
    obtain ⟨h1, h2⟩ := ba (h c hc)
    obtain ⟨h2, h3⟩ := ba h2
    obtain ⟨h3, h4⟩ := ba h3
    exact ⟨xfB_ok h1, excCB_ok h2, fun f hf => of_decide_eq_true (List.all_eq_true.mp h3 f hf)⟩
  · have e := (hm c hc).symm.trans hC
    cases e
    obtain ⟨h1, h2⟩ := ba (h c hc)
    obtain ⟨h2, h3⟩ := ba h2
    obtain ⟨h3, h4⟩ := ba h3
    have z := of_decide_eq_true (List.all_eq_true.mp h4 t ht)
    have eu : u = tyAt K t := by
      cases t with
      | own x =>
        obtain ⟨T, e1, e2⟩ := hu
        have e3 := (hT x ht).symm.trans e1
        cases e3
        exact e2
      | blt n => exact hu
    rw [eu]
    exact z
/-! ### the hook: facts, defs, the defs that say super(), one Bool more -/
abbrev AlS : Type := AlD × List SupW × Bool
structure HdS where
  fa : List Fa
  fn : List DefD
  sc : List Str
  sv : List SupW
  ex : PySem.W.Frag → Bool
def HdS.obs (h : HdS) (K : PySem.W.Frag) : AlS := (obsD h.fa h.fn K, h.sc.map (supW K), h.ex K)
def HdS.val (h : HdS) : AlS := (valD h.fn, h.sv, true)
def HdS.hook (h : HdS) (as : List Addr) : PySem.W.Hook where
  α := AlS
  obs := fun s => h.obs (frG s.heap.get? as)
  val := fun _ => h.val
  says := fun _ hp => ∃ K : PySem.W.Frag, K.In hp ∧ h.obs K = h.val
  of := fun _ _ e => ⟨_, frG_in, e⟩
  keeps := fun _ _ _ ⟨K, hK, c⟩ k => ⟨K, PySem.W.Frag.In.keeps hK k, c⟩
theorem HdS.obs_eq {h : HdS} {as : List Addr} {g : Addr → Option Obj} {s : Shared} (e : ∀ a, g a = s.heap.get? a) : h.obs (frG g as) = (h.hook as).obs s := by
  have e : g = s.heap.get? := funext e
  rw [e] <;> rfl
theorem HdS.d {h : HdS} {K : PySem.W.Frag} (c : h.obs K = h.val) : SaysD h.fa h.fn K := congrArg (fun z : AlS => z.1) c
theorem HdS.s {h : HdS} {K : PySem.W.Frag} (c : h.obs K = h.val) (i : Nat) {x : Str} {v : SupW} (e : h.sc[i]? = some x := by rfl) (e2 : h.sv[i]? = some v := by rfl) : supW K x = v := by
  have z : h.sc.map (supW K) = h.sv := congrArg (fun z : AlS => z.2.1) c
  have y : (h.sc.map (supW K))[i]? = h.sv[i]? := by rw [z]
  rw [List.getElem?_map, e, e2] at y
  exact Option.some.inj y
theorem HdS.e {h : HdS} {K : PySem.W.Frag} (c : h.obs K = h.val) : h.ex K = true := congrArg (fun z : AlS => z.2.2) c
end Cz
set_option linter.all false
set_option autoImplicit false
set_option maxRecDepth 100000
/-! The data layer: what was left over. -/
namespace Cz
open PySem PySem.Spec PyProof.Rows L2
def negD (x : D) (L : LH) : Res D := match x with
  | .int i => .ok (.int (-i)) L
  | _ => .bad
theorem pd_neg {X : Cx} {a : Expr} {fa : Ex} {pos : Pos} (ha : PD X a fa) : PD X (.UnaryOp .USub a pos) (e1 negD fa) := (pe_un un_neg ha).cq fun σ H Q q => one q fun ι L H x dx d L' g rx hf k => by
  unfold negD at hf
  split at hf
  · cases hf; exact ⟨_, rx.int_inv, k.now g (.int _)⟩
  · cases hf
theorem pdt0 {X : Cx} : PTs X [] (wT X.wd fun _ L => .ok true L) := ⟨fun pins s σ H Q I ⟨ι, L, ρ, sa, b, L', hf, k⟩ => by
  cases hf
  exact pts_nil.run pins s σ H Q I (k ι H .refl sa.g)⟩
theorem pdt1 {X : Cx} {c : Expr} {t : Te} (h : PDT X c t) : PTs X [c] (wT X.wd t) := pts_one h
end Cz
set_option linter.all false
set_option autoImplicit false
set_option maxRecDepth 100000
/-! The data layer: the law's own def. -/
namespace Cz
open PySem PySem.Spec PyProof.Rows L2
theorem fnG_body {P : Program} {w : World} {K : PySem.W.Frag} {mg : Str → Option Value} {base : Heap} {k : Nat} {f : Addr} {x : Str} {params : Arguments} {body : List Stmt} {scope : Scope} {fd : FuncData} {N ps : List Str} {m : Sm}
    (F : FunD K x x params body scope [] [] f fd) (S : FnScope N ps scope)
    (hbody : ∀ (cdv : Value) (A : Around) (outer : List Env) (s : Shared) (H : Hp), Room k (A.deeper (envOfC x scope s.heap.objs.size f cdv)) → A.guards = some [] → PDSs (cxOf CN P w K mg base N x scope f cdv A outer s H EN) body m) :
    FnG P w K mg base (k + 1) f fd ps (spD ⟨K, mg⟩ ps.length (runP ps.length N.length m)) := by
  refine fnG_of F S (fun vs H Q h => h.1) fun cdv A outer s H vs Q hr hg h => ?_
  refine ⟨_, hbody cdv A outer s H hr hg, ?_⟩
  obtain ⟨hl, ι, L, ds, d, L', g, ra, hf, k⟩ := h
  obtain ⟨hn, hf⟩ := if_inv hf
  obtain ⟨⟨fl, ρ'⟩, L1, h1, hf⟩ := bind_inv hf
  refine ⟨ι, L, _, ⟨g, RS.start ra N.length N rfl⟩, (fl, ρ'), L1, h1, ?_⟩
  cases fl with
  | nx => cases hf; exact fun σ' ι' H' _ le s => k _ ι' H' le s.g .non
  | rt x => cases hf; exact k
  | bk => cases hf
  | ct => cases hf
end Cz
set_option Elab.async false
set_option linter.all false
set_option autoImplicit false
set_option maxRecDepth 100000
set_option maxHeartbeats 0
namespace K01
open PySem PySem.Spec PyProof.Rows L2 Cz
def top (i : Nat) : Stmt := PySem.Challenge.pw_carryruns_k01_errors_each_of_its_own.main.body.getD i (.Pass ⟨0, 0, 0, 0⟩)
abbrev PG : Program := (PySem.Challenge.rw_carryruns_k01_errors_each_of_its_own).prog
def d__law_well : He.DefD := ⟨("_law_well", none), "_law_well", "_law_well", defArgs (top 24), defBody (top 24), defScope (top 24), [], []⟩
def d__law_draw : He.DefD := ⟨("_law_draw", none), "_law_draw", "_law_draw", defArgs (top 25), defBody (top 25), defScope (top 25), [], []⟩
def d__law_of : He.DefD := ⟨("_law_of", none), "_law_of", "_law_of", defArgs (top 26), defBody (top 26), defScope (top 26), [], []⟩
def d__law_is : He.DefD := ⟨("_law_is", none), "_law_is", "_law_is", defArgs (top 27), defBody (top 27), defScope (top 27), [], []⟩
def d__law_given : He.DefD := ⟨("_law_given", none), "_law_given", "_law_given", defArgs (top 28), defBody (top 28), defScope (top 28), [], []⟩
def d__law_index : He.DefD := ⟨("_law_index", none), "_law_index", "_law_index", defArgs (top 29), defBody (top 29), defScope (top 29), [], []⟩
def d__law_value : He.DefD := ⟨("_law_value", none), "_law_value", "_law_value", defArgs (top 30), defBody (top 30), defScope (top 30), [], []⟩
def d__law_made_a : He.DefD := ⟨("_law_made_a", none), "_law_made_a", "_law_made_a", defArgs (top 31), defBody (top 31), defScope (top 31), [], []⟩
def d__law_made_b : He.DefD := ⟨("_law_made_b", none), "_law_made_b", "_law_made_b", defArgs (top 32), defBody (top 32), defScope (top 32), [], []⟩
def d__law_made : He.DefD := ⟨("_law_made", none), "_law_made", "_law_made", defArgs (top 33), defBody (top 33), defScope (top 33), [], []⟩
def d__law_kinds_a : He.DefD := ⟨("_law_kinds_a", none), "_law_kinds_a", "_law_kinds_a", defArgs (top 34), defBody (top 34), defScope (top 34), [], []⟩
def d__law_kinds_b : He.DefD := ⟨("_law_kinds_b", none), "_law_kinds_b", "_law_kinds_b", defArgs (top 35), defBody (top 35), defScope (top 35), [], []⟩
def d__law_is_own : He.DefD := ⟨("_law_is_own", none), "_law_is_own", "_law_is_own", defArgs (top 36), defBody (top 36), defScope (top 36), [], []⟩
def d__law_right : He.DefD := ⟨("_law_right", none), "_law_right", "_law_right", defArgs (top 37), defBody (top 37), defScope (top 37), [], []⟩
def d_law : He.DefD := ⟨("law", none), "law", "law", defArgs (top 38), defBody (top 38), defScope (top 38), [], []⟩
def fn : List He.DefD := [d__law_well, d__law_draw, d__law_of, d__law_is, d__law_given, d__law_index, d__law_value, d__law_made_a, d__law_made_b, d__law_made, d__law_kinds_a, d__law_kinds_b, d__law_is_own, d__law_right, d_law]
def fa_0 : List He.Fa := [.glo "_law_well", .glo "_law_draw", .glo "_law_of", .glo "_law_is", .glo "_law_given", .glo "_law_index", .glo "_law_value", .glo "_law_made_a", .glo "_law_made_b", .glo "_law_made", .glo "_law_kinds_a", .glo "_law_kinds_b", .glo "_law_is_own", .glo "_law_right", .glo "law", .free "ArithmeticError", .free "AttributeError", .free "LookupError", .free "RuntimeError", .free "TypeError"]
def fa_1 : List He.Fa := [.free "ValueError", .free "abs", .free "all", .free "divmod", .free "int", .free "isinstance", .free "len", .free "max", .free "min", .free "range", .free "repr", .free "super", .glo "RunError", .glo "InvalidProgram", .glo "NotAccepted", .glo "InvalidNumber", .glo "UnknownDef", .glo "InvalidMachine", .glo "InvalidImage", .glo "InvalidState"]
def fa_2 : List He.Fa := [.glo "InvalidUnit", .glo "InvalidSide", .glo "InvalidKinds", .glo "InvalidLine", .glo "NotADesk", .glo "InvalidText", .glo "InvalidInputs", .glo "InvalidItinerary", .glo "InvalidUnits", .glo "InvalidCommands", .glo "InvalidWords", .glo "Unjoined", .glo "Ended", .glo "NothingDone"]
def fa : List He.Fa := fa_0 ++ fa_1 ++ fa_2
def sc_0 : List Str := ["InvalidProgram", "NotAccepted", "InvalidNumber", "UnknownDef", "InvalidMachine", "InvalidImage", "InvalidState", "InvalidUnit", "InvalidSide", "InvalidKinds", "InvalidLine", "NotADesk", "InvalidText", "InvalidInputs", "InvalidItinerary", "InvalidUnits", "InvalidCommands", "InvalidWords"]
def sc : List Str := sc_0
def sv_InvalidProgram : SupW := some ("__init__", "InvalidProgram.__init__", defArgs (inClass (top 2) 0), .stmts (defBody (inClass (top 2) 0)), defScope (inClass (top 2) 0), mainGlobals, builtinsNs)
def sv_NotAccepted : SupW := some ("__init__", "NotAccepted.__init__", defArgs (inClass (top 3) 0), .stmts (defBody (inClass (top 3) 0)), defScope (inClass (top 3) 0), mainGlobals, builtinsNs)
def sv_InvalidNumber : SupW := some ("__init__", "InvalidNumber.__init__", defArgs (inClass (top 4) 0), .stmts (defBody (inClass (top 4) 0)), defScope (inClass (top 4) 0), mainGlobals, builtinsNs)
def sv_UnknownDef : SupW := some ("__init__", "UnknownDef.__init__", defArgs (inClass (top 5) 0), .stmts (defBody (inClass (top 5) 0)), defScope (inClass (top 5) 0), mainGlobals, builtinsNs)
def sv_InvalidMachine : SupW := some ("__init__", "InvalidMachine.__init__", defArgs (inClass (top 6) 0), .stmts (defBody (inClass (top 6) 0)), defScope (inClass (top 6) 0), mainGlobals, builtinsNs)
def sv_InvalidImage : SupW := some ("__init__", "InvalidImage.__init__", defArgs (inClass (top 7) 0), .stmts (defBody (inClass (top 7) 0)), defScope (inClass (top 7) 0), mainGlobals, builtinsNs)
def sv_InvalidState : SupW := some ("__init__", "InvalidState.__init__", defArgs (inClass (top 8) 0), .stmts (defBody (inClass (top 8) 0)), defScope (inClass (top 8) 0), mainGlobals, builtinsNs)
def sv_InvalidUnit : SupW := some ("__init__", "InvalidUnit.__init__", defArgs (inClass (top 9) 0), .stmts (defBody (inClass (top 9) 0)), defScope (inClass (top 9) 0), mainGlobals, builtinsNs)
def sv_InvalidSide : SupW := some ("__init__", "InvalidSide.__init__", defArgs (inClass (top 10) 0), .stmts (defBody (inClass (top 10) 0)), defScope (inClass (top 10) 0), mainGlobals, builtinsNs)
def sv_InvalidKinds : SupW := some ("__init__", "InvalidKinds.__init__", defArgs (inClass (top 11) 0), .stmts (defBody (inClass (top 11) 0)), defScope (inClass (top 11) 0), mainGlobals, builtinsNs)
def sv_InvalidLine : SupW := some ("__init__", "InvalidLine.__init__", defArgs (inClass (top 12) 0), .stmts (defBody (inClass (top 12) 0)), defScope (inClass (top 12) 0), mainGlobals, builtinsNs)
def sv_NotADesk : SupW := some ("__init__", "NotADesk.__init__", defArgs (inClass (top 13) 0), .stmts (defBody (inClass (top 13) 0)), defScope (inClass (top 13) 0), mainGlobals, builtinsNs)
def sv_InvalidText : SupW := some ("__init__", "InvalidText.__init__", defArgs (inClass (top 14) 0), .stmts (defBody (inClass (top 14) 0)), defScope (inClass (top 14) 0), mainGlobals, builtinsNs)
def sv_InvalidInputs : SupW := some ("__init__", "InvalidInputs.__init__", defArgs (inClass (top 15) 0), .stmts (defBody (inClass (top 15) 0)), defScope (inClass (top 15) 0), mainGlobals, builtinsNs)
def sv_InvalidItinerary : SupW := some ("__init__", "InvalidItinerary.__init__", defArgs (inClass (top 16) 0), .stmts (defBody (inClass (top 16) 0)), defScope (inClass (top 16) 0), mainGlobals, builtinsNs)
def sv_InvalidUnits : SupW := some ("__init__", "InvalidUnits.__init__", defArgs (inClass (top 17) 0), .stmts (defBody (inClass (top 17) 0)), defScope (inClass (top 17) 0), mainGlobals, builtinsNs)
def sv_InvalidCommands : SupW := some ("__init__", "InvalidCommands.__init__", defArgs (inClass (top 18) 0), .stmts (defBody (inClass (top 18) 0)), defScope (inClass (top 18) 0), mainGlobals, builtinsNs)
def sv_InvalidWords : SupW := some ("__init__", "InvalidWords.__init__", defArgs (inClass (top 19) 0), .stmts (defBody (inClass (top 19) 0)), defScope (inClass (top 19) 0), mainGlobals, builtinsNs)
def sv : List SupW := [sv_InvalidProgram, sv_NotAccepted, sv_InvalidNumber, sv_UnknownDef, sv_InvalidMachine, sv_InvalidImage, sv_InvalidState, sv_InvalidUnit, sv_InvalidSide, sv_InvalidKinds, sv_InvalidLine, sv_NotADesk, sv_InvalidText, sv_InvalidInputs, sv_InvalidItinerary, sv_InvalidUnits, sv_InvalidCommands, sv_InvalidWords]
def exC_0 : List Str := ["InvalidProgram", "NotAccepted", "InvalidNumber", "UnknownDef", "InvalidMachine", "InvalidImage", "InvalidState", "InvalidUnit", "InvalidSide", "InvalidKinds", "InvalidLine", "NotADesk", "InvalidText", "InvalidInputs", "InvalidItinerary", "InvalidUnits", "InvalidCommands", "InvalidWords", "RunError", "Unjoined"]
def exC_1 : List Str := ["Ended", "NothingDone"]
def exC : List Str := exC_0 ++ exC_1
def exF__0 : List Str := ["given", "index", "where"]
def exF_ : List Str := exF__0
def exT_0 : List TyK := [.blt "TypeError", .blt "LookupError", .blt "ArithmeticError", .blt "AttributeError", .blt "RuntimeError", .own "InvalidNumber", .own "NothingDone", .own "UnknownDef", .own "InvalidMachine", .own "InvalidImage", .own "InvalidState", .own "InvalidUnit", .own "InvalidSide", .own "InvalidKinds", .own "InvalidLine", .own "NotADesk", .own "InvalidText", .own "InvalidInputs", .own "InvalidItinerary", .own "InvalidUnits"]
def exT_1 : List TyK := [.own "InvalidCommands", .own "InvalidWords", .own "InvalidProgram", .own "NotAccepted", .own "Unjoined", .own "Ended", .own "RunError", .blt "ValueError"]
def exT : List TyK := exT_0 ++ exT_1
def exTab (c : Str) : TyK → Bool
  | .own x => decide (c = x) || decide (x = ("RunError" : Str))
  | .blt n => decide (n = "ValueError")
def exS_0 : List (Str × Str) := [("InvalidProgram", "where"), ("NotAccepted", "where"), ("InvalidNumber", "given"), ("UnknownDef", "given"), ("InvalidMachine", "given"), ("InvalidImage", "given"), ("InvalidState", "given"), ("InvalidUnit", "given"), ("InvalidSide", "given"), ("InvalidKinds", "given"), ("InvalidLine", "given"), ("NotADesk", "given"), ("InvalidText", "index"), ("InvalidInputs", "index"), ("InvalidItinerary", "index"), ("InvalidUnits", "index"), ("InvalidCommands", "index"), ("InvalidWords", "index")]
def exS : List (Str × Str) := exS_0
def ex0_0 : List Str := ["RunError", "Unjoined", "Ended", "NothingDone"]
def ex0 : List Str := ex0_0
def exB (K : PySem.W.Frag) : Bool := (exS.all fun q => supB PG K q.1 q.2) && ((ex0.all fun c => exc0B K c) && exaB K exC exF_ exT exTab)
def hd : HdS := ⟨fa, fn, sc, sv, exB⟩
def ad : List Addr := List.range 560
def loose_0 : List Str := ["RunError", "InvalidProgram", "NotAccepted", "InvalidNumber", "UnknownDef", "InvalidMachine", "InvalidImage", "InvalidState", "InvalidUnit", "InvalidSide", "InvalidKinds", "InvalidLine", "NotADesk", "InvalidText", "InvalidInputs", "InvalidItinerary", "InvalidUnits", "InvalidCommands", "InvalidWords", "Unjoined"]
def loose_1 : List Str := ["Ended", "NothingDone", "_law_well", "_law_draw", "_law_of", "_law_is", "_law_given", "_law_index", "_law_value", "_law_made_a", "_law_made_b", "_law_made", "_law_kinds_a", "_law_kinds_b", "_law_is_own", "_law_right"]
def loose : List Str := loose_0 ++ loose_1
abbrev R : PySem.W.OpenRow := PySem.W.OpenLaw.row PySem.Challenge.rw_carryruns_k01_errors_each_of_its_own
abbrev hk : PySem.W.Hook := hd.hook ad
def ob (s : PySem.W.SharedT) : AlS := hd.obs (He.frG (HandSHeadRun.getT s) ad)
theorem ob_eq (s : PySem.W.SharedT) : ob s = hk.obs s.abs := HdS.obs_eq (HandSHeadRun.getT_eq s)
end K01
set_option linter.all false
set_option autoImplicit false
set_option maxRecDepth 100000
set_option maxHeartbeats 400000
namespace K01
open PySem PySem.Spec PyProof.Rows L2 Cz
theorem fr_ArithmeticError {K : PySem.W.Frag} {mg : Str → Option Value} {hp : Heap} (X : K.In hp) (G : hp.Ns mainGlobals mg) (c : hd.obs K = hd.val) : mg "ArithmeticError" = none := He.free_ok X G ((HdS.d c).fact 15 (f := .free "ArithmeticError") rfl)
theorem fr_AttributeError {K : PySem.W.Frag} {mg : Str → Option Value} {hp : Heap} (X : K.In hp) (G : hp.Ns mainGlobals mg) (c : hd.obs K = hd.val) : mg "AttributeError" = none := He.free_ok X G ((HdS.d c).fact 16 (f := .free "AttributeError") rfl)
theorem fr_LookupError {K : PySem.W.Frag} {mg : Str → Option Value} {hp : Heap} (X : K.In hp) (G : hp.Ns mainGlobals mg) (c : hd.obs K = hd.val) : mg "LookupError" = none := He.free_ok X G ((HdS.d c).fact 17 (f := .free "LookupError") rfl)
theorem fr_RuntimeError {K : PySem.W.Frag} {mg : Str → Option Value} {hp : Heap} (X : K.In hp) (G : hp.Ns mainGlobals mg) (c : hd.obs K = hd.val) : mg "RuntimeError" = none := He.free_ok X G ((HdS.d c).fact 18 (f := .free "RuntimeError") rfl)
theorem fr_TypeError {K : PySem.W.Frag} {mg : Str → Option Value} {hp : Heap} (X : K.In hp) (G : hp.Ns mainGlobals mg) (c : hd.obs K = hd.val) : mg "TypeError" = none := He.free_ok X G ((HdS.d c).fact 19 (f := .free "TypeError") rfl)
theorem fr_ValueError {K : PySem.W.Frag} {mg : Str → Option Value} {hp : Heap} (X : K.In hp) (G : hp.Ns mainGlobals mg) (c : hd.obs K = hd.val) : mg "ValueError" = none := He.free_ok X G ((HdS.d c).fact 20 (f := .free "ValueError") rfl)
theorem fr_abs {K : PySem.W.Frag} {mg : Str → Option Value} {hp : Heap} (X : K.In hp) (G : hp.Ns mainGlobals mg) (c : hd.obs K = hd.val) : mg "abs" = none := He.free_ok X G ((HdS.d c).fact 21 (f := .free "abs") rfl)
theorem fr_all {K : PySem.W.Frag} {mg : Str → Option Value} {hp : Heap} (X : K.In hp) (G : hp.Ns mainGlobals mg) (c : hd.obs K = hd.val) : mg "all" = none := He.free_ok X G ((HdS.d c).fact 22 (f := .free "all") rfl)
theorem fr_divmod {K : PySem.W.Frag} {mg : Str → Option Value} {hp : Heap} (X : K.In hp) (G : hp.Ns mainGlobals mg) (c : hd.obs K = hd.val) : mg "divmod" = none := He.free_ok X G ((HdS.d c).fact 23 (f := .free "divmod") rfl)
theorem fr_int {K : PySem.W.Frag} {mg : Str → Option Value} {hp : Heap} (X : K.In hp) (G : hp.Ns mainGlobals mg) (c : hd.obs K = hd.val) : mg "int" = none := He.free_ok X G ((HdS.d c).fact 24 (f := .free "int") rfl)
theorem fr_isinstance {K : PySem.W.Frag} {mg : Str → Option Value} {hp : Heap} (X : K.In hp) (G : hp.Ns mainGlobals mg) (c : hd.obs K = hd.val) : mg "isinstance" = none := He.free_ok X G ((HdS.d c).fact 25 (f := .free "isinstance") rfl)
theorem fr_len {K : PySem.W.Frag} {mg : Str → Option Value} {hp : Heap} (X : K.In hp) (G : hp.Ns mainGlobals mg) (c : hd.obs K = hd.val) : mg "len" = none := He.free_ok X G ((HdS.d c).fact 26 (f := .free "len") rfl)
theorem fr_max {K : PySem.W.Frag} {mg : Str → Option Value} {hp : Heap} (X : K.In hp) (G : hp.Ns mainGlobals mg) (c : hd.obs K = hd.val) : mg "max" = none := He.free_ok X G ((HdS.d c).fact 27 (f := .free "max") rfl)
theorem fr_min {K : PySem.W.Frag} {mg : Str → Option Value} {hp : Heap} (X : K.In hp) (G : hp.Ns mainGlobals mg) (c : hd.obs K = hd.val) : mg "min" = none := He.free_ok X G ((HdS.d c).fact 28 (f := .free "min") rfl)
theorem fr_range {K : PySem.W.Frag} {mg : Str → Option Value} {hp : Heap} (X : K.In hp) (G : hp.Ns mainGlobals mg) (c : hd.obs K = hd.val) : mg "range" = none := He.free_ok X G ((HdS.d c).fact 29 (f := .free "range") rfl)
theorem fr_repr {K : PySem.W.Frag} {mg : Str → Option Value} {hp : Heap} (X : K.In hp) (G : hp.Ns mainGlobals mg) (c : hd.obs K = hd.val) : mg "repr" = none := He.free_ok X G ((HdS.d c).fact 30 (f := .free "repr") rfl)
theorem fr_super {K : PySem.W.Frag} {mg : Str → Option Value} {hp : Heap} (X : K.In hp) (G : hp.Ns mainGlobals mg) (c : hd.obs K = hd.val) : mg "super" = none := He.free_ok X G ((HdS.d c).fact 31 (f := .free "super") rfl)
theorem g_RunError {K : PySem.W.Frag} {mg : Str → Option Value} {hp : Heap} (X : K.In hp) (G : hp.Ns mainGlobals mg) (c : hd.obs K = hd.val) : mg "RunError" = some (.ref (He.ga K "RunError")) := He.glo_ok X G ((HdS.d c).fact 32 (f := .glo "RunError") rfl)
theorem g_InvalidProgram {K : PySem.W.Frag} {mg : Str → Option Value} {hp : Heap} (X : K.In hp) (G : hp.Ns mainGlobals mg) (c : hd.obs K = hd.val) : mg "InvalidProgram" = some (.ref (He.ga K "InvalidProgram")) := He.glo_ok X G ((HdS.d c).fact 33 (f := .glo "InvalidProgram") rfl)
theorem g_NotAccepted {K : PySem.W.Frag} {mg : Str → Option Value} {hp : Heap} (X : K.In hp) (G : hp.Ns mainGlobals mg) (c : hd.obs K = hd.val) : mg "NotAccepted" = some (.ref (He.ga K "NotAccepted")) := He.glo_ok X G ((HdS.d c).fact 34 (f := .glo "NotAccepted") rfl)
theorem g_InvalidNumber {K : PySem.W.Frag} {mg : Str → Option Value} {hp : Heap} (X : K.In hp) (G : hp.Ns mainGlobals mg) (c : hd.obs K = hd.val) : mg "InvalidNumber" = some (.ref (He.ga K "InvalidNumber")) := He.glo_ok X G ((HdS.d c).fact 35 (f := .glo "InvalidNumber") rfl)
theorem g_UnknownDef {K : PySem.W.Frag} {mg : Str → Option Value} {hp : Heap} (X : K.In hp) (G : hp.Ns mainGlobals mg) (c : hd.obs K = hd.val) : mg "UnknownDef" = some (.ref (He.ga K "UnknownDef")) := He.glo_ok X G ((HdS.d c).fact 36 (f := .glo "UnknownDef") rfl)
theorem g_InvalidMachine {K : PySem.W.Frag} {mg : Str → Option Value} {hp : Heap} (X : K.In hp) (G : hp.Ns mainGlobals mg) (c : hd.obs K = hd.val) : mg "InvalidMachine" = some (.ref (He.ga K "InvalidMachine")) := He.glo_ok X G ((HdS.d c).fact 37 (f := .glo "InvalidMachine") rfl)
theorem g_InvalidImage {K : PySem.W.Frag} {mg : Str → Option Value} {hp : Heap} (X : K.In hp) (G : hp.Ns mainGlobals mg) (c : hd.obs K = hd.val) : mg "InvalidImage" = some (.ref (He.ga K "InvalidImage")) := He.glo_ok X G ((HdS.d c).fact 38 (f := .glo "InvalidImage") rfl)
theorem g_InvalidState {K : PySem.W.Frag} {mg : Str → Option Value} {hp : Heap} (X : K.In hp) (G : hp.Ns mainGlobals mg) (c : hd.obs K = hd.val) : mg "InvalidState" = some (.ref (He.ga K "InvalidState")) := He.glo_ok X G ((HdS.d c).fact 39 (f := .glo "InvalidState") rfl)
theorem g_InvalidUnit {K : PySem.W.Frag} {mg : Str → Option Value} {hp : Heap} (X : K.In hp) (G : hp.Ns mainGlobals mg) (c : hd.obs K = hd.val) : mg "InvalidUnit" = some (.ref (He.ga K "InvalidUnit")) := He.glo_ok X G ((HdS.d c).fact 40 (f := .glo "InvalidUnit") rfl)
theorem g_InvalidSide {K : PySem.W.Frag} {mg : Str → Option Value} {hp : Heap} (X : K.In hp) (G : hp.Ns mainGlobals mg) (c : hd.obs K = hd.val) : mg "InvalidSide" = some (.ref (He.ga K "InvalidSide")) := He.glo_ok X G ((HdS.d c).fact 41 (f := .glo "InvalidSide") rfl)
theorem g_InvalidKinds {K : PySem.W.Frag} {mg : Str → Option Value} {hp : Heap} (X : K.In hp) (G : hp.Ns mainGlobals mg) (c : hd.obs K = hd.val) : mg "InvalidKinds" = some (.ref (He.ga K "InvalidKinds")) := He.glo_ok X G ((HdS.d c).fact 42 (f := .glo "InvalidKinds") rfl)
theorem g_InvalidLine {K : PySem.W.Frag} {mg : Str → Option Value} {hp : Heap} (X : K.In hp) (G : hp.Ns mainGlobals mg) (c : hd.obs K = hd.val) : mg "InvalidLine" = some (.ref (He.ga K "InvalidLine")) := He.glo_ok X G ((HdS.d c).fact 43 (f := .glo "InvalidLine") rfl)
theorem g_NotADesk {K : PySem.W.Frag} {mg : Str → Option Value} {hp : Heap} (X : K.In hp) (G : hp.Ns mainGlobals mg) (c : hd.obs K = hd.val) : mg "NotADesk" = some (.ref (He.ga K "NotADesk")) := He.glo_ok X G ((HdS.d c).fact 44 (f := .glo "NotADesk") rfl)
theorem g_InvalidText {K : PySem.W.Frag} {mg : Str → Option Value} {hp : Heap} (X : K.In hp) (G : hp.Ns mainGlobals mg) (c : hd.obs K = hd.val) : mg "InvalidText" = some (.ref (He.ga K "InvalidText")) := He.glo_ok X G ((HdS.d c).fact 45 (f := .glo "InvalidText") rfl)
theorem g_InvalidInputs {K : PySem.W.Frag} {mg : Str → Option Value} {hp : Heap} (X : K.In hp) (G : hp.Ns mainGlobals mg) (c : hd.obs K = hd.val) : mg "InvalidInputs" = some (.ref (He.ga K "InvalidInputs")) := He.glo_ok X G ((HdS.d c).fact 46 (f := .glo "InvalidInputs") rfl)
theorem g_InvalidItinerary {K : PySem.W.Frag} {mg : Str → Option Value} {hp : Heap} (X : K.In hp) (G : hp.Ns mainGlobals mg) (c : hd.obs K = hd.val) : mg "InvalidItinerary" = some (.ref (He.ga K "InvalidItinerary")) := He.glo_ok X G ((HdS.d c).fact 47 (f := .glo "InvalidItinerary") rfl)
theorem g_InvalidUnits {K : PySem.W.Frag} {mg : Str → Option Value} {hp : Heap} (X : K.In hp) (G : hp.Ns mainGlobals mg) (c : hd.obs K = hd.val) : mg "InvalidUnits" = some (.ref (He.ga K "InvalidUnits")) := He.glo_ok X G ((HdS.d c).fact 48 (f := .glo "InvalidUnits") rfl)
theorem g_InvalidCommands {K : PySem.W.Frag} {mg : Str → Option Value} {hp : Heap} (X : K.In hp) (G : hp.Ns mainGlobals mg) (c : hd.obs K = hd.val) : mg "InvalidCommands" = some (.ref (He.ga K "InvalidCommands")) := He.glo_ok X G ((HdS.d c).fact 49 (f := .glo "InvalidCommands") rfl)
theorem g_InvalidWords {K : PySem.W.Frag} {mg : Str → Option Value} {hp : Heap} (X : K.In hp) (G : hp.Ns mainGlobals mg) (c : hd.obs K = hd.val) : mg "InvalidWords" = some (.ref (He.ga K "InvalidWords")) := He.glo_ok X G ((HdS.d c).fact 50 (f := .glo "InvalidWords") rfl)
theorem g_Unjoined {K : PySem.W.Frag} {mg : Str → Option Value} {hp : Heap} (X : K.In hp) (G : hp.Ns mainGlobals mg) (c : hd.obs K = hd.val) : mg "Unjoined" = some (.ref (He.ga K "Unjoined")) := He.glo_ok X G ((HdS.d c).fact 51 (f := .glo "Unjoined") rfl)
theorem g_Ended {K : PySem.W.Frag} {mg : Str → Option Value} {hp : Heap} (X : K.In hp) (G : hp.Ns mainGlobals mg) (c : hd.obs K = hd.val) : mg "Ended" = some (.ref (He.ga K "Ended")) := He.glo_ok X G ((HdS.d c).fact 52 (f := .glo "Ended") rfl)
theorem g_NothingDone {K : PySem.W.Frag} {mg : Str → Option Value} {hp : Heap} (X : K.In hp) (G : hp.Ns mainGlobals mg) (c : hd.obs K = hd.val) : mg "NothingDone" = some (.ref (He.ga K "NothingDone")) := He.glo_ok X G ((HdS.d c).fact 53 (f := .glo "NothingDone") rfl)
theorem t_InvalidProgram : SupT (inClass (top 2) 0) "where" "where" := ⟨⟨_, _, _, _, _, _, _, _, _, _, _, rfl, fun _ => rfl⟩, ⟨rfl, rfl, rfl, by decide +kernel, rfl, rfl, rfl, rfl, by decide, by decide, ⟨_, rfl, rfl⟩⟩, fun _ _ _ _ _ _ _ _ _ _ _ _ => rfl, fun _ _ _ _ _ _ _ _ _ _ _ _ => rfl⟩
theorem s_InvalidProgram {K : PySem.W.Frag} {mg : Str → Option Value} {hp : Heap} (X : K.In hp) (G : hp.Ns mainGlobals mg) (c : hd.obs K = hd.val) : ∃ C, SupC PG K mg "InvalidProgram" "where" "where" C :=
  ⟨_, supB_ok (st := inClass (top 2) 0) (List.all_eq_true.mp (He.ba (HdS.e c)).1 ("InvalidProgram", "where") (List.mem_of_getElem? (i := 0) rfl)) (HdS.s c 0 (v := sv_InvalidProgram) rfl rfl) t_InvalidProgram (g_InvalidProgram X G c) (fr_super X G c) rfl⟩
theorem t_NotAccepted : SupT (inClass (top 3) 0) "where" "where" := ⟨⟨_, _, _, _, _, _, _, _, _, _, _, rfl, fun _ => rfl⟩, ⟨rfl, rfl, rfl, by decide +kernel, rfl, rfl, rfl, rfl, by decide, by decide, ⟨_, rfl, rfl⟩⟩, fun _ _ _ _ _ _ _ _ _ _ _ _ => rfl, fun _ _ _ _ _ _ _ _ _ _ _ _ => rfl⟩
theorem s_NotAccepted {K : PySem.W.Frag} {mg : Str → Option Value} {hp : Heap} (X : K.In hp) (G : hp.Ns mainGlobals mg) (c : hd.obs K = hd.val) : ∃ C, SupC PG K mg "NotAccepted" "where" "where" C :=
  ⟨_, supB_ok (st := inClass (top 3) 0) (List.all_eq_true.mp (He.ba (HdS.e c)).1 ("NotAccepted", "where") (List.mem_of_getElem? (i := 1) rfl)) (HdS.s c 1 (v := sv_NotAccepted) rfl rfl) t_NotAccepted (g_NotAccepted X G c) (fr_super X G c) rfl⟩
theorem t_InvalidNumber : SupT (inClass (top 4) 0) "given" "given" := ⟨⟨_, _, _, _, _, _, _, _, _, _, _, rfl, fun _ => rfl⟩, ⟨rfl, rfl, rfl, by decide +kernel, rfl, rfl, rfl, rfl, by decide, by decide, ⟨_, rfl, rfl⟩⟩, fun _ _ _ _ _ _ _ _ _ _ _ _ => rfl, fun _ _ _ _ _ _ _ _ _ _ _ _ => rfl⟩
theorem s_InvalidNumber {K : PySem.W.Frag} {mg : Str → Option Value} {hp : Heap} (X : K.In hp) (G : hp.Ns mainGlobals mg) (c : hd.obs K = hd.val) : ∃ C, SupC PG K mg "InvalidNumber" "given" "given" C :=
  ⟨_, supB_ok (st := inClass (top 4) 0) (List.all_eq_true.mp (He.ba (HdS.e c)).1 ("InvalidNumber", "given") (List.mem_of_getElem? (i := 2) rfl)) (HdS.s c 2 (v := sv_InvalidNumber) rfl rfl) t_InvalidNumber (g_InvalidNumber X G c) (fr_super X G c) rfl⟩
theorem t_UnknownDef : SupT (inClass (top 5) 0) "given" "given" := ⟨⟨_, _, _, _, _, _, _, _, _, _, _, rfl, fun _ => rfl⟩, ⟨rfl, rfl, rfl, by decide +kernel, rfl, rfl, rfl, rfl, by decide, by decide, ⟨_, rfl, rfl⟩⟩, fun _ _ _ _ _ _ _ _ _ _ _ _ => rfl, fun _ _ _ _ _ _ _ _ _ _ _ _ => rfl⟩
theorem s_UnknownDef {K : PySem.W.Frag} {mg : Str → Option Value} {hp : Heap} (X : K.In hp) (G : hp.Ns mainGlobals mg) (c : hd.obs K = hd.val) : ∃ C, SupC PG K mg "UnknownDef" "given" "given" C :=
  ⟨_, supB_ok (st := inClass (top 5) 0) (List.all_eq_true.mp (He.ba (HdS.e c)).1 ("UnknownDef", "given") (List.mem_of_getElem? (i := 3) rfl)) (HdS.s c 3 (v := sv_UnknownDef) rfl rfl) t_UnknownDef (g_UnknownDef X G c) (fr_super X G c) rfl⟩
theorem t_InvalidMachine : SupT (inClass (top 6) 0) "given" "given" := ⟨⟨_, _, _, _, _, _, _, _, _, _, _, rfl, fun _ => rfl⟩, ⟨rfl, rfl, rfl, by decide +kernel, rfl, rfl, rfl, rfl, by decide, by decide, ⟨_, rfl, rfl⟩⟩, fun _ _ _ _ _ _ _ _ _ _ _ _ => rfl, fun _ _ _ _ _ _ _ _ _ _ _ _ => rfl⟩
theorem s_InvalidMachine {K : PySem.W.Frag} {mg : Str → Option Value} {hp : Heap} (X : K.In hp) (G : hp.Ns mainGlobals mg) (c : hd.obs K = hd.val) : ∃ C, SupC PG K mg "InvalidMachine" "given" "given" C :=
  ⟨_, supB_ok (st := inClass (top 6) 0) (List.all_eq_true.mp (He.ba (HdS.e c)).1 ("InvalidMachine", "given") (List.mem_of_getElem? (i := 4) rfl)) (HdS.s c 4 (v := sv_InvalidMachine) rfl rfl) t_InvalidMachine (g_InvalidMachine X G c) (fr_super X G c) rfl⟩
theorem t_InvalidImage : SupT (inClass (top 7) 0) "given" "given" := ⟨⟨_, _, _, _, _, _, _, _, _, _, _, rfl, fun _ => rfl⟩, ⟨rfl, rfl, rfl, by decide +kernel, rfl, rfl, rfl, rfl, by decide, by decide, ⟨_, rfl, rfl⟩⟩, fun _ _ _ _ _ _ _ _ _ _ _ _ => rfl, fun _ _ _ _ _ _ _ _ _ _ _ _ => rfl⟩
theorem s_InvalidImage {K : PySem.W.Frag} {mg : Str → Option Value} {hp : Heap} (X : K.In hp) (G : hp.Ns mainGlobals mg) (c : hd.obs K = hd.val) : ∃ C, SupC PG K mg "InvalidImage" "given" "given" C :=
  ⟨_, supB_ok (st := inClass (top 7) 0) (List.all_eq_true.mp (He.ba (HdS.e c)).1 ("InvalidImage", "given") (List.mem_of_getElem? (i := 5) rfl)) (HdS.s c 5 (v := sv_InvalidImage) rfl rfl) t_InvalidImage (g_InvalidImage X G c) (fr_super X G c) rfl⟩
theorem t_InvalidState : SupT (inClass (top 8) 0) "given" "given" := ⟨⟨_, _, _, _, _, _, _, _, _, _, _, rfl, fun _ => rfl⟩, ⟨rfl, rfl, rfl, by decide +kernel, rfl, rfl, rfl, rfl, by decide, by decide, ⟨_, rfl, rfl⟩⟩, fun _ _ _ _ _ _ _ _ _ _ _ _ => rfl, fun _ _ _ _ _ _ _ _ _ _ _ _ => rfl⟩
theorem s_InvalidState {K : PySem.W.Frag} {mg : Str → Option Value} {hp : Heap} (X : K.In hp) (G : hp.Ns mainGlobals mg) (c : hd.obs K = hd.val) : ∃ C, SupC PG K mg "InvalidState" "given" "given" C :=
  ⟨_, supB_ok (st := inClass (top 8) 0) (List.all_eq_true.mp (He.ba (HdS.e c)).1 ("InvalidState", "given") (List.mem_of_getElem? (i := 6) rfl)) (HdS.s c 6 (v := sv_InvalidState) rfl rfl) t_InvalidState (g_InvalidState X G c) (fr_super X G c) rfl⟩
theorem t_InvalidUnit : SupT (inClass (top 9) 0) "given" "given" := ⟨⟨_, _, _, _, _, _, _, _, _, _, _, rfl, fun _ => rfl⟩, ⟨rfl, rfl, rfl, by decide +kernel, rfl, rfl, rfl, rfl, by decide, by decide, ⟨_, rfl, rfl⟩⟩, fun _ _ _ _ _ _ _ _ _ _ _ _ => rfl, fun _ _ _ _ _ _ _ _ _ _ _ _ => rfl⟩
theorem s_InvalidUnit {K : PySem.W.Frag} {mg : Str → Option Value} {hp : Heap} (X : K.In hp) (G : hp.Ns mainGlobals mg) (c : hd.obs K = hd.val) : ∃ C, SupC PG K mg "InvalidUnit" "given" "given" C :=
  ⟨_, supB_ok (st := inClass (top 9) 0) (List.all_eq_true.mp (He.ba (HdS.e c)).1 ("InvalidUnit", "given") (List.mem_of_getElem? (i := 7) rfl)) (HdS.s c 7 (v := sv_InvalidUnit) rfl rfl) t_InvalidUnit (g_InvalidUnit X G c) (fr_super X G c) rfl⟩
theorem t_InvalidSide : SupT (inClass (top 10) 0) "given" "given" := ⟨⟨_, _, _, _, _, _, _, _, _, _, _, rfl, fun _ => rfl⟩, ⟨rfl, rfl, rfl, by decide +kernel, rfl, rfl, rfl, rfl, by decide, by decide, ⟨_, rfl, rfl⟩⟩, fun _ _ _ _ _ _ _ _ _ _ _ _ => rfl, fun _ _ _ _ _ _ _ _ _ _ _ _ => rfl⟩
theorem s_InvalidSide {K : PySem.W.Frag} {mg : Str → Option Value} {hp : Heap} (X : K.In hp) (G : hp.Ns mainGlobals mg) (c : hd.obs K = hd.val) : ∃ C, SupC PG K mg "InvalidSide" "given" "given" C :=
  ⟨_, supB_ok (st := inClass (top 10) 0) (List.all_eq_true.mp (He.ba (HdS.e c)).1 ("InvalidSide", "given") (List.mem_of_getElem? (i := 8) rfl)) (HdS.s c 8 (v := sv_InvalidSide) rfl rfl) t_InvalidSide (g_InvalidSide X G c) (fr_super X G c) rfl⟩
theorem t_InvalidKinds : SupT (inClass (top 11) 0) "given" "given" := ⟨⟨_, _, _, _, _, _, _, _, _, _, _, rfl, fun _ => rfl⟩, ⟨rfl, rfl, rfl, by decide +kernel, rfl, rfl, rfl, rfl, by decide, by decide, ⟨_, rfl, rfl⟩⟩, fun _ _ _ _ _ _ _ _ _ _ _ _ => rfl, fun _ _ _ _ _ _ _ _ _ _ _ _ => rfl⟩
theorem s_InvalidKinds {K : PySem.W.Frag} {mg : Str → Option Value} {hp : Heap} (X : K.In hp) (G : hp.Ns mainGlobals mg) (c : hd.obs K = hd.val) : ∃ C, SupC PG K mg "InvalidKinds" "given" "given" C :=
  ⟨_, supB_ok (st := inClass (top 11) 0) (List.all_eq_true.mp (He.ba (HdS.e c)).1 ("InvalidKinds", "given") (List.mem_of_getElem? (i := 9) rfl)) (HdS.s c 9 (v := sv_InvalidKinds) rfl rfl) t_InvalidKinds (g_InvalidKinds X G c) (fr_super X G c) rfl⟩
theorem t_InvalidLine : SupT (inClass (top 12) 0) "given" "given" := ⟨⟨_, _, _, _, _, _, _, _, _, _, _, rfl, fun _ => rfl⟩, ⟨rfl, rfl, rfl, by decide +kernel, rfl, rfl, rfl, rfl, by decide, by decide, ⟨_, rfl, rfl⟩⟩, fun _ _ _ _ _ _ _ _ _ _ _ _ => rfl, fun _ _ _ _ _ _ _ _ _ _ _ _ => rfl⟩
theorem s_InvalidLine {K : PySem.W.Frag} {mg : Str → Option Value} {hp : Heap} (X : K.In hp) (G : hp.Ns mainGlobals mg) (c : hd.obs K = hd.val) : ∃ C, SupC PG K mg "InvalidLine" "given" "given" C :=
  ⟨_, supB_ok (st := inClass (top 12) 0) (List.all_eq_true.mp (He.ba (HdS.e c)).1 ("InvalidLine", "given") (List.mem_of_getElem? (i := 10) rfl)) (HdS.s c 10 (v := sv_InvalidLine) rfl rfl) t_InvalidLine (g_InvalidLine X G c) (fr_super X G c) rfl⟩
theorem t_NotADesk : SupT (inClass (top 13) 0) "given" "given" := ⟨⟨_, _, _, _, _, _, _, _, _, _, _, rfl, fun _ => rfl⟩, ⟨rfl, rfl, rfl, by decide +kernel, rfl, rfl, rfl, rfl, by decide, by decide, ⟨_, rfl, rfl⟩⟩, fun _ _ _ _ _ _ _ _ _ _ _ _ => rfl, fun _ _ _ _ _ _ _ _ _ _ _ _ => rfl⟩
theorem s_NotADesk {K : PySem.W.Frag} {mg : Str → Option Value} {hp : Heap} (X : K.In hp) (G : hp.Ns mainGlobals mg) (c : hd.obs K = hd.val) : ∃ C, SupC PG K mg "NotADesk" "given" "given" C :=
  ⟨_, supB_ok (st := inClass (top 13) 0) (List.all_eq_true.mp (He.ba (HdS.e c)).1 ("NotADesk", "given") (List.mem_of_getElem? (i := 11) rfl)) (HdS.s c 11 (v := sv_NotADesk) rfl rfl) t_NotADesk (g_NotADesk X G c) (fr_super X G c) rfl⟩
theorem t_InvalidText : SupT (inClass (top 14) 0) "index" "index" := ⟨⟨_, _, _, _, _, _, _, _, _, _, _, rfl, fun _ => rfl⟩, ⟨rfl, rfl, rfl, by decide +kernel, rfl, rfl, rfl, rfl, by decide, by decide, ⟨_, rfl, rfl⟩⟩, fun _ _ _ _ _ _ _ _ _ _ _ _ => rfl, fun _ _ _ _ _ _ _ _ _ _ _ _ => rfl⟩
theorem s_InvalidText {K : PySem.W.Frag} {mg : Str → Option Value} {hp : Heap} (X : K.In hp) (G : hp.Ns mainGlobals mg) (c : hd.obs K = hd.val) : ∃ C, SupC PG K mg "InvalidText" "index" "index" C :=
  ⟨_, supB_ok (st := inClass (top 14) 0) (List.all_eq_true.mp (He.ba (HdS.e c)).1 ("InvalidText", "index") (List.mem_of_getElem? (i := 12) rfl)) (HdS.s c 12 (v := sv_InvalidText) rfl rfl) t_InvalidText (g_InvalidText X G c) (fr_super X G c) rfl⟩
theorem t_InvalidInputs : SupT (inClass (top 15) 0) "index" "index" := ⟨⟨_, _, _, _, _, _, _, _, _, _, _, rfl, fun _ => rfl⟩, ⟨rfl, rfl, rfl, by decide +kernel, rfl, rfl, rfl, rfl, by decide, by decide, ⟨_, rfl, rfl⟩⟩, fun _ _ _ _ _ _ _ _ _ _ _ _ => rfl, fun _ _ _ _ _ _ _ _ _ _ _ _ => rfl⟩
theorem s_InvalidInputs {K : PySem.W.Frag} {mg : Str → Option Value} {hp : Heap} (X : K.In hp) (G : hp.Ns mainGlobals mg) (c : hd.obs K = hd.val) : ∃ C, SupC PG K mg "InvalidInputs" "index" "index" C :=
  ⟨_, supB_ok (st := inClass (top 15) 0) (List.all_eq_true.mp (He.ba (HdS.e c)).1 ("InvalidInputs", "index") (List.mem_of_getElem? (i := 13) rfl)) (HdS.s c 13 (v := sv_InvalidInputs) rfl rfl) t_InvalidInputs (g_InvalidInputs X G c) (fr_super X G c) rfl⟩
theorem t_InvalidItinerary : SupT (inClass (top 16) 0) "index" "index" := ⟨⟨_, _, _, _, _, _, _, _, _, _, _, rfl, fun _ => rfl⟩, ⟨rfl, rfl, rfl, by decide +kernel, rfl, rfl, rfl, rfl, by decide, by decide, ⟨_, rfl, rfl⟩⟩, fun _ _ _ _ _ _ _ _ _ _ _ _ => rfl, fun _ _ _ _ _ _ _ _ _ _ _ _ => rfl⟩
theorem s_InvalidItinerary {K : PySem.W.Frag} {mg : Str → Option Value} {hp : Heap} (X : K.In hp) (G : hp.Ns mainGlobals mg) (c : hd.obs K = hd.val) : ∃ C, SupC PG K mg "InvalidItinerary" "index" "index" C :=
  ⟨_, supB_ok (st := inClass (top 16) 0) (List.all_eq_true.mp (He.ba (HdS.e c)).1 ("InvalidItinerary", "index") (List.mem_of_getElem? (i := 14) rfl)) (HdS.s c 14 (v := sv_InvalidItinerary) rfl rfl) t_InvalidItinerary (g_InvalidItinerary X G c) (fr_super X G c) rfl⟩
theorem t_InvalidUnits : SupT (inClass (top 17) 0) "index" "index" := ⟨⟨_, _, _, _, _, _, _, _, _, _, _, rfl, fun _ => rfl⟩, ⟨rfl, rfl, rfl, by decide +kernel, rfl, rfl, rfl, rfl, by decide, by decide, ⟨_, rfl, rfl⟩⟩, fun _ _ _ _ _ _ _ _ _ _ _ _ => rfl, fun _ _ _ _ _ _ _ _ _ _ _ _ => rfl⟩
theorem s_InvalidUnits {K : PySem.W.Frag} {mg : Str → Option Value} {hp : Heap} (X : K.In hp) (G : hp.Ns mainGlobals mg) (c : hd.obs K = hd.val) : ∃ C, SupC PG K mg "InvalidUnits" "index" "index" C :=
  ⟨_, supB_ok (st := inClass (top 17) 0) (List.all_eq_true.mp (He.ba (HdS.e c)).1 ("InvalidUnits", "index") (List.mem_of_getElem? (i := 15) rfl)) (HdS.s c 15 (v := sv_InvalidUnits) rfl rfl) t_InvalidUnits (g_InvalidUnits X G c) (fr_super X G c) rfl⟩
theorem t_InvalidCommands : SupT (inClass (top 18) 0) "index" "index" := ⟨⟨_, _, _, _, _, _, _, _, _, _, _, rfl, fun _ => rfl⟩, ⟨rfl, rfl, rfl, by decide +kernel, rfl, rfl, rfl, rfl, by decide, by decide, ⟨_, rfl, rfl⟩⟩, fun _ _ _ _ _ _ _ _ _ _ _ _ => rfl, fun _ _ _ _ _ _ _ _ _ _ _ _ => rfl⟩
theorem s_InvalidCommands {K : PySem.W.Frag} {mg : Str → Option Value} {hp : Heap} (X : K.In hp) (G : hp.Ns mainGlobals mg) (c : hd.obs K = hd.val) : ∃ C, SupC PG K mg "InvalidCommands" "index" "index" C :=
  ⟨_, supB_ok (st := inClass (top 18) 0) (List.all_eq_true.mp (He.ba (HdS.e c)).1 ("InvalidCommands", "index") (List.mem_of_getElem? (i := 16) rfl)) (HdS.s c 16 (v := sv_InvalidCommands) rfl rfl) t_InvalidCommands (g_InvalidCommands X G c) (fr_super X G c) rfl⟩
theorem t_InvalidWords : SupT (inClass (top 19) 0) "index" "index" := ⟨⟨_, _, _, _, _, _, _, _, _, _, _, rfl, fun _ => rfl⟩, ⟨rfl, rfl, rfl, by decide +kernel, rfl, rfl, rfl, rfl, by decide, by decide, ⟨_, rfl, rfl⟩⟩, fun _ _ _ _ _ _ _ _ _ _ _ _ => rfl, fun _ _ _ _ _ _ _ _ _ _ _ _ => rfl⟩
theorem s_InvalidWords {K : PySem.W.Frag} {mg : Str → Option Value} {hp : Heap} (X : K.In hp) (G : hp.Ns mainGlobals mg) (c : hd.obs K = hd.val) : ∃ C, SupC PG K mg "InvalidWords" "index" "index" C :=
  ⟨_, supB_ok (st := inClass (top 19) 0) (List.all_eq_true.mp (He.ba (HdS.e c)).1 ("InvalidWords", "index") (List.mem_of_getElem? (i := 17) rfl)) (HdS.s c 17 (v := sv_InvalidWords) rfl rfl) t_InvalidWords (g_InvalidWords X G c) (fr_super X G c) rfl⟩
theorem s_RunError {K : PySem.W.Frag} {mg : Str → Option Value} {hp : Heap} (X : K.In hp) (G : hp.Ns mainGlobals mg) (c : hd.obs K = hd.val) : ∃ C, Exc0 K mg "RunError" C :=
  ⟨_, exc0B_ok (List.all_eq_true.mp (He.ba (He.ba (HdS.e c)).2).1 "RunError" (List.mem_of_getElem? (i := 0) rfl)) (g_RunError X G c)⟩
theorem s_Unjoined {K : PySem.W.Frag} {mg : Str → Option Value} {hp : Heap} (X : K.In hp) (G : hp.Ns mainGlobals mg) (c : hd.obs K = hd.val) : ∃ C, Exc0 K mg "Unjoined" C :=
  ⟨_, exc0B_ok (List.all_eq_true.mp (He.ba (He.ba (HdS.e c)).2).1 "Unjoined" (List.mem_of_getElem? (i := 1) rfl)) (g_Unjoined X G c)⟩
theorem s_Ended {K : PySem.W.Frag} {mg : Str → Option Value} {hp : Heap} (X : K.In hp) (G : hp.Ns mainGlobals mg) (c : hd.obs K = hd.val) : ∃ C, Exc0 K mg "Ended" C :=
  ⟨_, exc0B_ok (List.all_eq_true.mp (He.ba (He.ba (HdS.e c)).2).1 "Ended" (List.mem_of_getElem? (i := 2) rfl)) (g_Ended X G c)⟩
theorem s_NothingDone {K : PySem.W.Frag} {mg : Str → Option Value} {hp : Heap} (X : K.In hp) (G : hp.Ns mainGlobals mg) (c : hd.obs K = hd.val) : ∃ C, Exc0 K mg "NothingDone" C :=
  ⟨_, exc0B_ok (List.all_eq_true.mp (He.ba (He.ba (HdS.e c)).2).1 "NothingDone" (List.mem_of_getElem? (i := 3) rfl)) (g_NothingDone X G c)⟩
theorem mg_exC {K : PySem.W.Frag} {mg : Str → Option Value} {hp : Heap} (X : K.In hp) (G : hp.Ns mainGlobals mg) (c : hd.obs K = hd.val) (x : Str) (hx : x ∈ exC) : mg x = some (.ref (He.ga K x)) := by
  simp only [exC, exC_0, exC_1, List.cons_append, List.nil_append, List.mem_cons, List.not_mem_nil, or_false] at hx
  rcases hx with rfl | rfl | rfl | rfl | rfl | rfl | rfl | rfl | rfl | rfl | rfl | rfl | rfl | rfl | rfl | rfl | rfl | rfl | rfl | rfl | rfl | rfl
  · exact g_InvalidProgram X G c
  · exact g_NotAccepted X G c
  · exact g_InvalidNumber X G c
  · exact g_UnknownDef X G c
  · exact g_InvalidMachine X G c
  · exact g_InvalidImage X G c
  · exact g_InvalidState X G c
  · exact g_InvalidUnit X G c
  · exact g_InvalidSide X G c
  · exact g_InvalidKinds X G c
  · exact g_InvalidLine X G c
  · exact g_NotADesk X G c
  · exact g_InvalidText X G c
  · exact g_InvalidInputs X G c
  · exact g_InvalidItinerary X G c
  · exact g_InvalidUnits X G c
  · exact g_InvalidCommands X G c
  · exact g_InvalidWords X G c
  · exact g_RunError X G c
  · exact g_Unjoined X G c
  · exact g_Ended X G c
  · exact g_NothingDone X G c
def tyIn (l : List Str) : TyK → Bool
  | .own x => decide (x ∈ l)
  | _ => true
theorem own_exT : (exT.all (tyIn exC)) = true := by decide +kernel
theorem z_exa {K : PySem.W.Frag} {mg : Str → Option Value} {hp : Heap} (X : K.In hp) (G : hp.Ns mainGlobals mg) (c : hd.obs K = hd.val) : ExA K mg exC exF_ exT exTab :=
  exaB_ok (He.ba (He.ba (HdS.e c)).2).2 (mg_exC X G c) fun x hx => mg_exC X G c x (of_decide_eq_true (show tyIn exC (.own x) = true from List.all_eq_true.mp own_exT _ hx))
def N__law_given : List Str := []
theorem sc__law_given : FnScope N__law_given [] (defScope (top 28)) := ⟨rfl, rfl, rfl, by decide +kernel, rfl, by decide +kernel, by decide +kernel⟩
noncomputable def m__law_given : Sm := (sRet (eLst [(eC (.str "InvalidNumber")), (eC (.str "UnknownDef")), (eC (.str "InvalidMachine")), (eC (.str "InvalidImage")), (eC (.str "InvalidState")), (eC (.str "InvalidUnit")), (eC (.str "InvalidSide")), (eC (.str "InvalidKinds")), (eC (.str "InvalidLine")), (eC (.str "NotADesk"))]))
noncomputable def F__law_given : Fu := runP 0 0 m__law_given
theorem b__law_given {w : World} {K : PySem.W.Frag} {mg : Str → Option Value} {base hp : Heap} {f : Addr} {cdv : Value} {A : Around} {outer : List Env} {s : Shared} {H : Hp} (X : K.In hp) (G : hp.Ns mainGlobals mg) (c : hd.obs K = hd.val)
    (hr : Room 0 (A.deeper (envOfC "_law_given" (defScope (top 28)) s.heap.objs.size f cdv))) (hg : A.guards = some []) : PDSs (cxOf CN PG w K mg base N__law_given "_law_given" (defScope (top 28)) f cdv A outer s H EN) (defBody (top 28)) m__law_given := by
  have hu1 : (A.deeper (envOfC "_law_given" (defScope (top 28)) s.heap.objs.size f cdv)).units + 1 < cLine := by have := hr.un; omega
  have hu64 : (A.deeper (envOfC "_law_given" (defScope (top 28)) s.heap.objs.size f cdv)).units + 64 < cLine := by have := hr.un; omega
  have hu65 : (A.deeper (envOfC "_law_given" (defScope (top 28)) s.heap.objs.size f cdv)).units + 65 < cLine := by have := hr.un; omega
  have hu100 : (A.deeper (envOfC "_law_given" (defScope (top 28)) s.heap.objs.size f cdv)).units + 100 < cLine := by have := hr.un; omega
  exact (pds_one (pds_ret (pd_lst (pda_cons pd_str (pda_cons pd_str (pda_cons pd_str (pda_cons pd_str (pda_cons pd_str (pda_cons pd_str (pda_cons pd_str (pda_cons pd_str (pda_cons pd_str (pda_cons pd_str pda_nil)))))))))))))
theorem u__law_given {K : PySem.W.Frag} {mg : Str → Option Value} {hp : Heap} (X : K.In hp) (G : hp.Ns mainGlobals mg) (c : hd.obs K = hd.val) : ∃ fd, FunD K "_law_given" "_law_given" (defArgs (top 28)) (defBody (top 28)) (defScope (top 28)) [] [] (He.ga K "_law_given") fd ∧ mg "_law_given" = some (.ref (He.ga K "_law_given")) := by
  obtain ⟨fd, F⟩ := (HdS.d c).def_ 4 (d := d__law_given) rfl
  exact ⟨fd, F, He.glo_ok X G ((HdS.d c).fact 4 (f := .glo "_law_given") rfl)⟩
theorem c__law_given {w : World} {K : PySem.W.Frag} {mg : Str → Option Value} {base hp : Heap} (X : K.In hp) (G : hp.Ns mainGlobals mg) (c : hd.obs K = hd.val) : FnD PG w K mg base 1 "_law_given" 0 F__law_given := by
  obtain ⟨fd, F, gm⟩ := u__law_given X G c
  exact fnD_of F gm sc__law_given (F.bindsN fun _ _ _ _ _ _ us hl => match us, hl with | [], _ => rfl) fun cdv A outer s H hr hg => b__law_given X G c hr hg
def N__law_index : List Str := []
theorem sc__law_index : FnScope N__law_index [] (defScope (top 29)) := ⟨rfl, rfl, rfl, by decide +kernel, rfl, by decide +kernel, by decide +kernel⟩
noncomputable def m__law_index : Sm := (sRet (eLst [(eC (.str "InvalidText")), (eC (.str "InvalidInputs")), (eC (.str "InvalidItinerary")), (eC (.str "InvalidUnits")), (eC (.str "InvalidCommands")), (eC (.str "InvalidWords")), (eC (.str "InvalidProgram")), (eC (.str "NotAccepted"))]))
noncomputable def F__law_index : Fu := runP 0 0 m__law_index
theorem b__law_index {w : World} {K : PySem.W.Frag} {mg : Str → Option Value} {base hp : Heap} {f : Addr} {cdv : Value} {A : Around} {outer : List Env} {s : Shared} {H : Hp} (X : K.In hp) (G : hp.Ns mainGlobals mg) (c : hd.obs K = hd.val)
    (hr : Room 0 (A.deeper (envOfC "_law_index" (defScope (top 29)) s.heap.objs.size f cdv))) (hg : A.guards = some []) : PDSs (cxOf CN PG w K mg base N__law_index "_law_index" (defScope (top 29)) f cdv A outer s H EN) (defBody (top 29)) m__law_index := by
  have hu1 : (A.deeper (envOfC "_law_index" (defScope (top 29)) s.heap.objs.size f cdv)).units + 1 < cLine := by have := hr.un; omega
  have hu64 : (A.deeper (envOfC "_law_index" (defScope (top 29)) s.heap.objs.size f cdv)).units + 64 < cLine := by have := hr.un; omega
  have hu65 : (A.deeper (envOfC "_law_index" (defScope (top 29)) s.heap.objs.size f cdv)).units + 65 < cLine := by have := hr.un; omega
  have hu100 : (A.deeper (envOfC "_law_index" (defScope (top 29)) s.heap.objs.size f cdv)).units + 100 < cLine := by have := hr.un; omega
  exact (pds_one (pds_ret (pd_lst (pda_cons pd_str (pda_cons pd_str (pda_cons pd_str (pda_cons pd_str (pda_cons pd_str (pda_cons pd_str (pda_cons pd_str (pda_cons pd_str pda_nil)))))))))))
theorem u__law_index {K : PySem.W.Frag} {mg : Str → Option Value} {hp : Heap} (X : K.In hp) (G : hp.Ns mainGlobals mg) (c : hd.obs K = hd.val) : ∃ fd, FunD K "_law_index" "_law_index" (defArgs (top 29)) (defBody (top 29)) (defScope (top 29)) [] [] (He.ga K "_law_index") fd ∧ mg "_law_index" = some (.ref (He.ga K "_law_index")) := by
  obtain ⟨fd, F⟩ := (HdS.d c).def_ 5 (d := d__law_index) rfl
  exact ⟨fd, F, He.glo_ok X G ((HdS.d c).fact 5 (f := .glo "_law_index") rfl)⟩
theorem c__law_index {w : World} {K : PySem.W.Frag} {mg : Str → Option Value} {base hp : Heap} (X : K.In hp) (G : hp.Ns mainGlobals mg) (c : hd.obs K = hd.val) : FnD PG w K mg base 1 "_law_index" 0 F__law_index := by
  obtain ⟨fd, F, gm⟩ := u__law_index X G c
  exact fnD_of F gm sc__law_index (F.bindsN fun _ _ _ _ _ _ us hl => match us, hl with | [], _ => rfl) fun cdv A outer s H hr hg => b__law_index X G c hr hg
def N__law_is : List Str := ["told", "due"]
theorem sc__law_is : FnScope N__law_is ["told", "due"] (defScope (top 27)) := ⟨rfl, rfl, rfl, by decide +kernel, rfl, by decide +kernel, by decide +kernel⟩
noncomputable def m__law_is : Sm := (sRet (e2 eqD (eCall (f1 reprD) [(eVar 0)]) (eCall (f1 reprD) [(eVar 1)])))
noncomputable def F__law_is : Fu := runP 2 2 m__law_is
theorem b__law_is {w : World} {K : PySem.W.Frag} {mg : Str → Option Value} {base hp : Heap} {f : Addr} {cdv : Value} {A : Around} {outer : List Env} {s : Shared} {H : Hp} (X : K.In hp) (G : hp.Ns mainGlobals mg) (c : hd.obs K = hd.val)
    (hr : Room 0 (A.deeper (envOfC "_law_is" (defScope (top 27)) s.heap.objs.size f cdv))) (hg : A.guards = some []) : PDSs (cxOf CN PG w K mg base N__law_is "_law_is" (defScope (top 27)) f cdv A outer s H EN) (defBody (top 27)) m__law_is := by
  have hu1 : (A.deeper (envOfC "_law_is" (defScope (top 27)) s.heap.objs.size f cdv)).units + 1 < cLine := by have := hr.un; omega
  have hu64 : (A.deeper (envOfC "_law_is" (defScope (top 27)) s.heap.objs.size f cdv)).units + 64 < cLine := by have := hr.un; omega
  have hu65 : (A.deeper (envOfC "_law_is" (defScope (top 27)) s.heap.objs.size f cdv)).units + 65 < cLine := by have := hr.un; omega
  have hu100 : (A.deeper (envOfC "_law_is" (defScope (top 27)) s.heap.objs.size f cdv)).units + 100 < cLine := by have := hr.un; omega
  exact (pds_one (pds_ret (pd_cmp (od_eq hu64) (pd_callB (oc_repr hu100 hg) (fr_repr X G c) (by decide +kernel) (pda_cons (pd_var (pv 0)) pda_nil)) (pd_callB (oc_repr hu100 hg) (fr_repr X G c) (by decide +kernel) (pda_cons (pd_var (pv 1)) pda_nil)) (nomark _))))
theorem u__law_is {K : PySem.W.Frag} {mg : Str → Option Value} {hp : Heap} (X : K.In hp) (G : hp.Ns mainGlobals mg) (c : hd.obs K = hd.val) : ∃ fd, FunD K "_law_is" "_law_is" (defArgs (top 27)) (defBody (top 27)) (defScope (top 27)) [] [] (He.ga K "_law_is") fd ∧ mg "_law_is" = some (.ref (He.ga K "_law_is")) := by
  obtain ⟨fd, F⟩ := (HdS.d c).def_ 3 (d := d__law_is) rfl
  exact ⟨fd, F, He.glo_ok X G ((HdS.d c).fact 3 (f := .glo "_law_is") rfl)⟩
theorem c__law_is {w : World} {K : PySem.W.Frag} {mg : Str → Option Value} {base hp : Heap} (X : K.In hp) (G : hp.Ns mainGlobals mg) (c : hd.obs K = hd.val) : FnD PG w K mg base 1 "_law_is" 2 F__law_is := by
  obtain ⟨fd, F, gm⟩ := u__law_is X G c
  exact fnD_of F gm sc__law_is (F.bindsN fun _ _ _ _ _ _ us hl => match us, hl with | [_, _], _ => rfl) fun cdv A outer s H hr hg => b__law_is X G c hr hg
def N__law_kinds_a : List Str := ["e", "found"]
theorem sc__law_kinds_a : FnScope N__law_kinds_a ["e"] (defScope (top 34)) := ⟨rfl, rfl, rfl, by decide +kernel, rfl, by decide +kernel, by decide +kernel⟩
noncomputable def m__law_kinds_a : Sm := (sSeq (sAsg (.nm 1) (eIf (tE (eCall (f2 (isxD exC exT exTab)) [(eVar 0), (eC (.fn "InvalidNumber"))])) (eLst [(eC (.str "InvalidNumber"))]) (eLst []))) (sSeq (sAsg (.nm 1) (e2 addD (eVar 1) (eIf (tE (eCall (f2 (isxD exC exT exTab)) [(eVar 0), (eC (.fn "UnknownDef"))])) (eLst [(eC (.str "UnknownDef"))]) (eLst [])))) (sSeq (sAsg (.nm 1) (e2 addD (eVar 1) (eIf (tE (eCall (f2 (isxD exC exT exTab)) [(eVar 0), (eC (.fn "InvalidMachine"))])) (eLst [(eC (.str "InvalidMachine"))]) (eLst [])))) (sSeq (sAsg (.nm 1) (e2 addD (eVar 1) (eIf (tE (eCall (f2 (isxD exC exT exTab)) [(eVar 0), (eC (.fn "InvalidImage"))])) (eLst [(eC (.str "InvalidImage"))]) (eLst [])))) (sSeq (sAsg (.nm 1) (e2 addD (eVar 1) (eIf (tE (eCall (f2 (isxD exC exT exTab)) [(eVar 0), (eC (.fn "InvalidState"))])) (eLst [(eC (.str "InvalidState"))]) (eLst [])))) (sSeq (sAsg (.nm 1) (e2 addD (eVar 1) (eIf (tE (eCall (f2 (isxD exC exT exTab)) [(eVar 0), (eC (.fn "InvalidUnit"))])) (eLst [(eC (.str "InvalidUnit"))]) (eLst [])))) (sSeq (sAsg (.nm 1) (e2 addD (eVar 1) (eIf (tE (eCall (f2 (isxD exC exT exTab)) [(eVar 0), (eC (.fn "InvalidSide"))])) (eLst [(eC (.str "InvalidSide"))]) (eLst [])))) (sSeq (sAsg (.nm 1) (e2 addD (eVar 1) (eIf (tE (eCall (f2 (isxD exC exT exTab)) [(eVar 0), (eC (.fn "InvalidKinds"))])) (eLst [(eC (.str "InvalidKinds"))]) (eLst [])))) (sSeq (sAsg (.nm 1) (e2 addD (eVar 1) (eIf (tE (eCall (f2 (isxD exC exT exTab)) [(eVar 0), (eC (.fn "InvalidLine"))])) (eLst [(eC (.str "InvalidLine"))]) (eLst [])))) (sSeq (sAsg (.nm 1) (e2 addD (eVar 1) (eIf (tE (eCall (f2 (isxD exC exT exTab)) [(eVar 0), (eC (.fn "NotADesk"))])) (eLst [(eC (.str "NotADesk"))]) (eLst [])))) (sSeq (sAsg (.nm 1) (e2 addD (eVar 1) (eIf (tE (eCall (f2 (isxD exC exT exTab)) [(eVar 0), (eC (.fn "InvalidText"))])) (eLst [(eC (.str "InvalidText"))]) (eLst [])))) (sSeq (sAsg (.nm 1) (e2 addD (eVar 1) (eIf (tE (eCall (f2 (isxD exC exT exTab)) [(eVar 0), (eC (.fn "InvalidInputs"))])) (eLst [(eC (.str "InvalidInputs"))]) (eLst [])))) (sSeq (sAsg (.nm 1) (e2 addD (eVar 1) (eIf (tE (eCall (f2 (isxD exC exT exTab)) [(eVar 0), (eC (.fn "InvalidItinerary"))])) (eLst [(eC (.str "InvalidItinerary"))]) (eLst [])))) (sSeq (sAsg (.nm 1) (e2 addD (eVar 1) (eIf (tE (eCall (f2 (isxD exC exT exTab)) [(eVar 0), (eC (.fn "InvalidUnits"))])) (eLst [(eC (.str "InvalidUnits"))]) (eLst [])))) (sSeq (sAsg (.nm 1) (e2 addD (eVar 1) (eIf (tE (eCall (f2 (isxD exC exT exTab)) [(eVar 0), (eC (.fn "InvalidCommands"))])) (eLst [(eC (.str "InvalidCommands"))]) (eLst [])))) (sSeq (sAsg (.nm 1) (e2 addD (eVar 1) (eIf (tE (eCall (f2 (isxD exC exT exTab)) [(eVar 0), (eC (.fn "InvalidWords"))])) (eLst [(eC (.str "InvalidWords"))]) (eLst [])))) (sSeq (sAsg (.nm 1) (e2 addD (eVar 1) (eIf (tE (eCall (f2 (isxD exC exT exTab)) [(eVar 0), (eC (.fn "InvalidProgram"))])) (eLst [(eC (.str "InvalidProgram"))]) (eLst [])))) (sSeq (sAsg (.nm 1) (e2 addD (eVar 1) (eIf (tE (eCall (f2 (isxD exC exT exTab)) [(eVar 0), (eC (.fn "NotAccepted"))])) (eLst [(eC (.str "NotAccepted"))]) (eLst [])))) (sSeq (sAsg (.nm 1) (e2 addD (eVar 1) (eIf (tE (eCall (f2 (isxD exC exT exTab)) [(eVar 0), (eC (.fn "Unjoined"))])) (eLst [(eC (.str "Unjoined"))]) (eLst [])))) (sSeq (sAsg (.nm 1) (e2 addD (eVar 1) (eIf (tE (eCall (f2 (isxD exC exT exTab)) [(eVar 0), (eC (.fn "Ended"))])) (eLst [(eC (.str "Ended"))]) (eLst [])))) (sRet (eVar 1))))))))))))))))))))))
noncomputable def F__law_kinds_a : Fu := runP 1 2 m__law_kinds_a
theorem b__law_kinds_a {w : World} {K : PySem.W.Frag} {mg : Str → Option Value} {base hp : Heap} {f : Addr} {cdv : Value} {A : Around} {outer : List Env} {s : Shared} {H : Hp} (X : K.In hp) (G : hp.Ns mainGlobals mg) (c : hd.obs K = hd.val)
    (hr : Room 0 (A.deeper (envOfC "_law_kinds_a" (defScope (top 34)) s.heap.objs.size f cdv))) (hg : A.guards = some []) : PDSs (cxOf CN PG w K mg base N__law_kinds_a "_law_kinds_a" (defScope (top 34)) f cdv A outer s H EN) (defBody (top 34)) m__law_kinds_a := by
  have hu1 : (A.deeper (envOfC "_law_kinds_a" (defScope (top 34)) s.heap.objs.size f cdv)).units + 1 < cLine := by have := hr.un; omega
  have hu64 : (A.deeper (envOfC "_law_kinds_a" (defScope (top 34)) s.heap.objs.size f cdv)).units + 64 < cLine := by have := hr.un; omega
  have hu65 : (A.deeper (envOfC "_law_kinds_a" (defScope (top 34)) s.heap.objs.size f cdv)).units + 65 < cLine := by have := hr.un; omega
  have hu100 : (A.deeper (envOfC "_law_kinds_a" (defScope (top 34)) s.heap.objs.size f cdv)).units + 100 < cLine := by have := hr.un; omega
  exact (pds_cons (pds_asg (pd_if (pt_v (pd_callB (oc_isx (z_exa X G c)) (fr_isinstance X G c) (by decide +kernel) (pda_cons (pd_var (pv 0)) (pda_cons (pd_gfn (g_InvalidNumber X G c)) pda_nil)))) (pd_lst (pda_cons pd_str pda_nil)) (pd_lst pda_nil)) (pdg_name (pg_name sc__law_kinds_a.nd (i := 1) rfl (Or.inl rfl)))) (pds_cons (pds_asg (pd_op od_add (pd_var (pv 1)) (pd_if (pt_v (pd_callB (oc_isx (z_exa X G c)) (fr_isinstance X G c) (by decide +kernel) (pda_cons (pd_var (pv 0)) (pda_cons (pd_gfn (g_UnknownDef X G c)) pda_nil)))) (pd_lst (pda_cons pd_str pda_nil)) (pd_lst pda_nil))) (pdg_name (pg_name sc__law_kinds_a.nd (i := 1) rfl (Or.inl rfl)))) (pds_cons (pds_asg (pd_op od_add (pd_var (pv 1)) (pd_if (pt_v (pd_callB (oc_isx (z_exa X G c)) (fr_isinstance X G c) (by decide +kernel) (pda_cons (pd_var (pv 0)) (pda_cons (pd_gfn (g_InvalidMachine X G c)) pda_nil)))) (pd_lst (pda_cons pd_str pda_nil)) (pd_lst pda_nil))) (pdg_name (pg_name sc__law_kinds_a.nd (i := 1) rfl (Or.inl rfl)))) (pds_cons (pds_asg (pd_op od_add (pd_var (pv 1)) (pd_if (pt_v (pd_callB (oc_isx (z_exa X G c)) (fr_isinstance X G c) (by decide +kernel) (pda_cons (pd_var (pv 0)) (pda_cons (pd_gfn (g_InvalidImage X G c)) pda_nil)))) (pd_lst (pda_cons pd_str pda_nil)) (pd_lst pda_nil))) (pdg_name (pg_name sc__law_kinds_a.nd (i := 1) rfl (Or.inl rfl)))) (pds_cons (pds_asg (pd_op od_add (pd_var (pv 1)) (pd_if (pt_v (pd_callB (oc_isx (z_exa X G c)) (fr_isinstance X G c) (by decide +kernel) (pda_cons (pd_var (pv 0)) (pda_cons (pd_gfn (g_InvalidState X G c)) pda_nil)))) (pd_lst (pda_cons pd_str pda_nil)) (pd_lst pda_nil))) (pdg_name (pg_name sc__law_kinds_a.nd (i := 1) rfl (Or.inl rfl)))) (pds_cons (pds_asg (pd_op od_add (pd_var (pv 1)) (pd_if (pt_v (pd_callB (oc_isx (z_exa X G c)) (fr_isinstance X G c) (by decide +kernel) (pda_cons (pd_var (pv 0)) (pda_cons (pd_gfn (g_InvalidUnit X G c)) pda_nil)))) (pd_lst (pda_cons pd_str pda_nil)) (pd_lst pda_nil))) (pdg_name (pg_name sc__law_kinds_a.nd (i := 1) rfl (Or.inl rfl)))) (pds_cons (pds_asg (pd_op od_add (pd_var (pv 1)) (pd_if (pt_v (pd_callB (oc_isx (z_exa X G c)) (fr_isinstance X G c) (by decide +kernel) (pda_cons (pd_var (pv 0)) (pda_cons (pd_gfn (g_InvalidSide X G c)) pda_nil)))) (pd_lst (pda_cons pd_str pda_nil)) (pd_lst pda_nil))) (pdg_name (pg_name sc__law_kinds_a.nd (i := 1) rfl (Or.inl rfl)))) (pds_cons (pds_asg (pd_op od_add (pd_var (pv 1)) (pd_if (pt_v (pd_callB (oc_isx (z_exa X G c)) (fr_isinstance X G c) (by decide +kernel) (pda_cons (pd_var (pv 0)) (pda_cons (pd_gfn (g_InvalidKinds X G c)) pda_nil)))) (pd_lst (pda_cons pd_str pda_nil)) (pd_lst pda_nil))) (pdg_name (pg_name sc__law_kinds_a.nd (i := 1) rfl (Or.inl rfl)))) (pds_cons (pds_asg (pd_op od_add (pd_var (pv 1)) (pd_if (pt_v (pd_callB (oc_isx (z_exa X G c)) (fr_isinstance X G c) (by decide +kernel) (pda_cons (pd_var (pv 0)) (pda_cons (pd_gfn (g_InvalidLine X G c)) pda_nil)))) (pd_lst (pda_cons pd_str pda_nil)) (pd_lst pda_nil))) (pdg_name (pg_name sc__law_kinds_a.nd (i := 1) rfl (Or.inl rfl)))) (pds_cons (pds_asg (pd_op od_add (pd_var (pv 1)) (pd_if (pt_v (pd_callB (oc_isx (z_exa X G c)) (fr_isinstance X G c) (by decide +kernel) (pda_cons (pd_var (pv 0)) (pda_cons (pd_gfn (g_NotADesk X G c)) pda_nil)))) (pd_lst (pda_cons pd_str pda_nil)) (pd_lst pda_nil))) (pdg_name (pg_name sc__law_kinds_a.nd (i := 1) rfl (Or.inl rfl)))) (pds_cons (pds_asg (pd_op od_add (pd_var (pv 1)) (pd_if (pt_v (pd_callB (oc_isx (z_exa X G c)) (fr_isinstance X G c) (by decide +kernel) (pda_cons (pd_var (pv 0)) (pda_cons (pd_gfn (g_InvalidText X G c)) pda_nil)))) (pd_lst (pda_cons pd_str pda_nil)) (pd_lst pda_nil))) (pdg_name (pg_name sc__law_kinds_a.nd (i := 1) rfl (Or.inl rfl)))) (pds_cons (pds_asg (pd_op od_add (pd_var (pv 1)) (pd_if (pt_v (pd_callB (oc_isx (z_exa X G c)) (fr_isinstance X G c) (by decide +kernel) (pda_cons (pd_var (pv 0)) (pda_cons (pd_gfn (g_InvalidInputs X G c)) pda_nil)))) (pd_lst (pda_cons pd_str pda_nil)) (pd_lst pda_nil))) (pdg_name (pg_name sc__law_kinds_a.nd (i := 1) rfl (Or.inl rfl)))) (pds_cons (pds_asg (pd_op od_add (pd_var (pv 1)) (pd_if (pt_v (pd_callB (oc_isx (z_exa X G c)) (fr_isinstance X G c) (by decide +kernel) (pda_cons (pd_var (pv 0)) (pda_cons (pd_gfn (g_InvalidItinerary X G c)) pda_nil)))) (pd_lst (pda_cons pd_str pda_nil)) (pd_lst pda_nil))) (pdg_name (pg_name sc__law_kinds_a.nd (i := 1) rfl (Or.inl rfl)))) (pds_cons (pds_asg (pd_op od_add (pd_var (pv 1)) (pd_if (pt_v (pd_callB (oc_isx (z_exa X G c)) (fr_isinstance X G c) (by decide +kernel) (pda_cons (pd_var (pv 0)) (pda_cons (pd_gfn (g_InvalidUnits X G c)) pda_nil)))) (pd_lst (pda_cons pd_str pda_nil)) (pd_lst pda_nil))) (pdg_name (pg_name sc__law_kinds_a.nd (i := 1) rfl (Or.inl rfl)))) (pds_cons (pds_asg (pd_op od_add (pd_var (pv 1)) (pd_if (pt_v (pd_callB (oc_isx (z_exa X G c)) (fr_isinstance X G c) (by decide +kernel) (pda_cons (pd_var (pv 0)) (pda_cons (pd_gfn (g_InvalidCommands X G c)) pda_nil)))) (pd_lst (pda_cons pd_str pda_nil)) (pd_lst pda_nil))) (pdg_name (pg_name sc__law_kinds_a.nd (i := 1) rfl (Or.inl rfl)))) (pds_cons (pds_asg (pd_op od_add (pd_var (pv 1)) (pd_if (pt_v (pd_callB (oc_isx (z_exa X G c)) (fr_isinstance X G c) (by decide +kernel) (pda_cons (pd_var (pv 0)) (pda_cons (pd_gfn (g_InvalidWords X G c)) pda_nil)))) (pd_lst (pda_cons pd_str pda_nil)) (pd_lst pda_nil))) (pdg_name (pg_name sc__law_kinds_a.nd (i := 1) rfl (Or.inl rfl)))) (pds_cons (pds_asg (pd_op od_add (pd_var (pv 1)) (pd_if (pt_v (pd_callB (oc_isx (z_exa X G c)) (fr_isinstance X G c) (by decide +kernel) (pda_cons (pd_var (pv 0)) (pda_cons (pd_gfn (g_InvalidProgram X G c)) pda_nil)))) (pd_lst (pda_cons pd_str pda_nil)) (pd_lst pda_nil))) (pdg_name (pg_name sc__law_kinds_a.nd (i := 1) rfl (Or.inl rfl)))) (pds_cons (pds_asg (pd_op od_add (pd_var (pv 1)) (pd_if (pt_v (pd_callB (oc_isx (z_exa X G c)) (fr_isinstance X G c) (by decide +kernel) (pda_cons (pd_var (pv 0)) (pda_cons (pd_gfn (g_NotAccepted X G c)) pda_nil)))) (pd_lst (pda_cons pd_str pda_nil)) (pd_lst pda_nil))) (pdg_name (pg_name sc__law_kinds_a.nd (i := 1) rfl (Or.inl rfl)))) (pds_cons (pds_asg (pd_op od_add (pd_var (pv 1)) (pd_if (pt_v (pd_callB (oc_isx (z_exa X G c)) (fr_isinstance X G c) (by decide +kernel) (pda_cons (pd_var (pv 0)) (pda_cons (pd_gfn (g_Unjoined X G c)) pda_nil)))) (pd_lst (pda_cons pd_str pda_nil)) (pd_lst pda_nil))) (pdg_name (pg_name sc__law_kinds_a.nd (i := 1) rfl (Or.inl rfl)))) (pds_cons (pds_asg (pd_op od_add (pd_var (pv 1)) (pd_if (pt_v (pd_callB (oc_isx (z_exa X G c)) (fr_isinstance X G c) (by decide +kernel) (pda_cons (pd_var (pv 0)) (pda_cons (pd_gfn (g_Ended X G c)) pda_nil)))) (pd_lst (pda_cons pd_str pda_nil)) (pd_lst pda_nil))) (pdg_name (pg_name sc__law_kinds_a.nd (i := 1) rfl (Or.inl rfl)))) (pds_one (pds_ret (pd_var (pv 1))))))))))))))))))))))))
theorem u__law_kinds_a {K : PySem.W.Frag} {mg : Str → Option Value} {hp : Heap} (X : K.In hp) (G : hp.Ns mainGlobals mg) (c : hd.obs K = hd.val) : ∃ fd, FunD K "_law_kinds_a" "_law_kinds_a" (defArgs (top 34)) (defBody (top 34)) (defScope (top 34)) [] [] (He.ga K "_law_kinds_a") fd ∧ mg "_law_kinds_a" = some (.ref (He.ga K "_law_kinds_a")) := by
  obtain ⟨fd, F⟩ := (HdS.d c).def_ 10 (d := d__law_kinds_a) rfl
  exact ⟨fd, F, He.glo_ok X G ((HdS.d c).fact 10 (f := .glo "_law_kinds_a") rfl)⟩
theorem c__law_kinds_a {w : World} {K : PySem.W.Frag} {mg : Str → Option Value} {base hp : Heap} (X : K.In hp) (G : hp.Ns mainGlobals mg) (c : hd.obs K = hd.val) : FnD PG w K mg base 1 "_law_kinds_a" 1 F__law_kinds_a := by
  obtain ⟨fd, F, gm⟩ := u__law_kinds_a X G c
  exact fnD_of F gm sc__law_kinds_a (F.bindsN fun _ _ _ _ _ _ us hl => match us, hl with | [_], _ => rfl) fun cdv A outer s H hr hg => b__law_kinds_a X G c hr hg
def N__law_kinds_b : List Str := ["e", "found"]
theorem sc__law_kinds_b : FnScope N__law_kinds_b ["e"] (defScope (top 35)) := ⟨rfl, rfl, rfl, by decide +kernel, rfl, by decide +kernel, by decide +kernel⟩
noncomputable def m__law_kinds_b : Sm := (sSeq (sAsg (.nm 1) (eIf (tE (eCall (f2 (isxD exC exT exTab)) [(eVar 0), (eC (.fn "NothingDone"))])) (eLst [(eC (.str "NothingDone"))]) (eLst []))) (sRet (eVar 1)))
noncomputable def F__law_kinds_b : Fu := runP 1 2 m__law_kinds_b
theorem b__law_kinds_b {w : World} {K : PySem.W.Frag} {mg : Str → Option Value} {base hp : Heap} {f : Addr} {cdv : Value} {A : Around} {outer : List Env} {s : Shared} {H : Hp} (X : K.In hp) (G : hp.Ns mainGlobals mg) (c : hd.obs K = hd.val)
    (hr : Room 0 (A.deeper (envOfC "_law_kinds_b" (defScope (top 35)) s.heap.objs.size f cdv))) (hg : A.guards = some []) : PDSs (cxOf CN PG w K mg base N__law_kinds_b "_law_kinds_b" (defScope (top 35)) f cdv A outer s H EN) (defBody (top 35)) m__law_kinds_b := by
  have hu1 : (A.deeper (envOfC "_law_kinds_b" (defScope (top 35)) s.heap.objs.size f cdv)).units + 1 < cLine := by have := hr.un; omega
  have hu64 : (A.deeper (envOfC "_law_kinds_b" (defScope (top 35)) s.heap.objs.size f cdv)).units + 64 < cLine := by have := hr.un; omega
  have hu65 : (A.deeper (envOfC "_law_kinds_b" (defScope (top 35)) s.heap.objs.size f cdv)).units + 65 < cLine := by have := hr.un; omega
  have hu100 : (A.deeper (envOfC "_law_kinds_b" (defScope (top 35)) s.heap.objs.size f cdv)).units + 100 < cLine := by have := hr.un; omega
  exact (pds_cons (pds_asg (pd_if (pt_v (pd_callB (oc_isx (z_exa X G c)) (fr_isinstance X G c) (by decide +kernel) (pda_cons (pd_var (pv 0)) (pda_cons (pd_gfn (g_NothingDone X G c)) pda_nil)))) (pd_lst (pda_cons pd_str pda_nil)) (pd_lst pda_nil)) (pdg_name (pg_name sc__law_kinds_b.nd (i := 1) rfl (Or.inl rfl)))) (pds_one (pds_ret (pd_var (pv 1)))))
theorem u__law_kinds_b {K : PySem.W.Frag} {mg : Str → Option Value} {hp : Heap} (X : K.In hp) (G : hp.Ns mainGlobals mg) (c : hd.obs K = hd.val) : ∃ fd, FunD K "_law_kinds_b" "_law_kinds_b" (defArgs (top 35)) (defBody (top 35)) (defScope (top 35)) [] [] (He.ga K "_law_kinds_b") fd ∧ mg "_law_kinds_b" = some (.ref (He.ga K "_law_kinds_b")) := by
  obtain ⟨fd, F⟩ := (HdS.d c).def_ 11 (d := d__law_kinds_b) rfl
  exact ⟨fd, F, He.glo_ok X G ((HdS.d c).fact 11 (f := .glo "_law_kinds_b") rfl)⟩
theorem c__law_kinds_b {w : World} {K : PySem.W.Frag} {mg : Str → Option Value} {base hp : Heap} (X : K.In hp) (G : hp.Ns mainGlobals mg) (c : hd.obs K = hd.val) : FnD PG w K mg base 1 "_law_kinds_b" 1 F__law_kinds_b := by
  obtain ⟨fd, F, gm⟩ := u__law_kinds_b X G c
  exact fnD_of F gm sc__law_kinds_b (F.bindsN fun _ _ _ _ _ _ us hl => match us, hl with | [_], _ => rfl) fun cdv A outer s H hr hg => b__law_kinds_b X G c hr hg
def N__law_is_own : List Str := ["e", "word", "others", "found"]
theorem sc__law_is_own : FnScope N__law_is_own ["e", "word"] (defScope (top 36)) := ⟨rfl, rfl, rfl, by decide +kernel, rfl, by decide +kernel, by decide +kernel⟩
noncomputable def m__law_is_own : Sm := (sSeq (sAsg (.nm 2) (eCall (f2 (isxD exC exT exTab)) [(eVar 0), (eTup [(eC (.ty "TypeError")), (eC (.ty "LookupError")), (eC (.ty "ArithmeticError")), (eC (.ty "AttributeError")), (eC (.ty "RuntimeError"))])])) (sSeq (sAsg (.nm 3) (e2 addD (eCall F__law_kinds_a [(eVar 0)]) (eCall F__law_kinds_b [(eVar 0)]))) (sRet (eCall F__law_is [(eLst [(eVar 3), (eCall (f2 (isxD exC exT exTab)) [(eVar 0), (eC (.fn "RunError"))]), (eCall (f2 (isxD exC exT exTab)) [(eVar 0), (eC (.ty "ValueError"))]), (eVar 2)]), (eLst [(eLst [(eVar 1)]), (eC (.bl true)), (eC (.bl true)), (eC (.bl false))])]))))
noncomputable def F__law_is_own : Fu := runP 2 4 m__law_is_own
theorem b__law_is_own {w : World} {K : PySem.W.Frag} {mg : Str → Option Value} {base hp : Heap} {f : Addr} {cdv : Value} {A : Around} {outer : List Env} {s : Shared} {H : Hp} (X : K.In hp) (G : hp.Ns mainGlobals mg) (c : hd.obs K = hd.val)
    (hr : Room 1 (A.deeper (envOfC "_law_is_own" (defScope (top 36)) s.heap.objs.size f cdv))) (hg : A.guards = some []) : PDSs (cxOf CN PG w K mg base N__law_is_own "_law_is_own" (defScope (top 36)) f cdv A outer s H EN) (defBody (top 36)) m__law_is_own := by
  have hu1 : (A.deeper (envOfC "_law_is_own" (defScope (top 36)) s.heap.objs.size f cdv)).units + 1 < cLine := by have := hr.un; omega
  have hu64 : (A.deeper (envOfC "_law_is_own" (defScope (top 36)) s.heap.objs.size f cdv)).units + 64 < cLine := by have := hr.un; omega
  have hu65 : (A.deeper (envOfC "_law_is_own" (defScope (top 36)) s.heap.objs.size f cdv)).units + 65 < cLine := by have := hr.un; omega
  have hu100 : (A.deeper (envOfC "_law_is_own" (defScope (top 36)) s.heap.objs.size f cdv)).units + 100 < cLine := by have := hr.un; omega
  exact (pds_cons (pds_asg (pd_callB (oc_isx (z_exa X G c)) (fr_isinstance X G c) (by decide +kernel) (pda_cons (pd_var (pv 0)) (pda_cons (pd_tup (pda_cons (pd_bty (fr_TypeError X G c) (by decide +kernel)) (pda_cons (pd_bty (fr_LookupError X G c) (by decide +kernel)) (pda_cons (pd_bty (fr_ArithmeticError X G c) (by decide +kernel)) (pda_cons (pd_bty (fr_AttributeError X G c) (by decide +kernel)) (pda_cons (pd_bty (fr_RuntimeError X G c) (by decide +kernel)) pda_nil)))))) pda_nil))) (pdg_name (pg_name sc__law_is_own.nd (i := 2) rfl (Or.inl rfl)))) (pds_cons (pds_asg (pd_op od_add (pd_call ((c__law_kinds_a X G c).mono (by decide)) hr hg (pda_cons (pd_var (pv 0)) pda_nil)) (pd_call ((c__law_kinds_b X G c).mono (by decide)) hr hg (pda_cons (pd_var (pv 0)) pda_nil))) (pdg_name (pg_name sc__law_is_own.nd (i := 3) rfl (Or.inl rfl)))) (pds_one (pds_ret (pd_call ((c__law_is X G c).mono (by decide)) hr hg (pda_cons (pd_lst (pda_cons (pd_var (pv 3)) (pda_cons (pd_callB (oc_isx (z_exa X G c)) (fr_isinstance X G c) (by decide +kernel) (pda_cons (pd_var (pv 0)) (pda_cons (pd_gfn (g_RunError X G c)) pda_nil))) (pda_cons (pd_callB (oc_isx (z_exa X G c)) (fr_isinstance X G c) (by decide +kernel) (pda_cons (pd_var (pv 0)) (pda_cons (pd_bty (fr_ValueError X G c) (by decide +kernel)) pda_nil))) (pda_cons (pd_var (pv 2)) pda_nil))))) (pda_cons (pd_lst (pda_cons (pd_lst (pda_cons (pd_var (pv 1)) pda_nil)) (pda_cons pd_bl (pda_cons pd_bl (pda_cons pd_bl pda_nil))))) pda_nil)))))))
theorem u__law_is_own {K : PySem.W.Frag} {mg : Str → Option Value} {hp : Heap} (X : K.In hp) (G : hp.Ns mainGlobals mg) (c : hd.obs K = hd.val) : ∃ fd, FunD K "_law_is_own" "_law_is_own" (defArgs (top 36)) (defBody (top 36)) (defScope (top 36)) [] [] (He.ga K "_law_is_own") fd ∧ mg "_law_is_own" = some (.ref (He.ga K "_law_is_own")) := by
  obtain ⟨fd, F⟩ := (HdS.d c).def_ 12 (d := d__law_is_own) rfl
  exact ⟨fd, F, He.glo_ok X G ((HdS.d c).fact 12 (f := .glo "_law_is_own") rfl)⟩
theorem c__law_is_own {w : World} {K : PySem.W.Frag} {mg : Str → Option Value} {base hp : Heap} (X : K.In hp) (G : hp.Ns mainGlobals mg) (c : hd.obs K = hd.val) : FnD PG w K mg base 2 "_law_is_own" 2 F__law_is_own := by
  obtain ⟨fd, F, gm⟩ := u__law_is_own X G c
  exact fnD_of F gm sc__law_is_own (F.bindsN fun _ _ _ _ _ _ us hl => match us, hl with | [_, _], _ => rfl) fun cdv A outer s H hr hg => b__law_is_own X G c hr hg
def N__law_draw : List Str := ["well", "limit", "mixed", "figure"]
theorem sc__law_draw : FnScope N__law_draw ["well", "limit"] (defScope (top 25)) := ⟨rfl, rfl, rfl, by decide +kernel, rfl, by decide +kernel, by decide +kernel⟩
noncomputable def m__law_draw : Sm := (sSeq (sIf (tE (e2 (intOp fun i j => .bl (decide (j < i))) (e2 ixD (eVar 0) (eC (.int 0))) (eC (.int 0)))) (sSeq (sAsg (.tp [(.sub (eVar 0) (eC (.int 0))), (.nm 3)]) (eCall (f2 dmD) [(e2 ixD (eVar 0) (eC (.int 0))), (eVar 1)])) (sRet (eVar 3))) sNil) (sSeq (sAsg (.sub (eVar 0) (eC (.int 2))) (e2 addD (e2 ixD (eVar 0) (eC (.int 2))) (eC (.int 1)))) (sSeq (sAsg (.nm 2) (e2 modD (eCall (f1 intF) [(e2 addD (e2 mulD (e2 ixD (eVar 0) (eC (.int 1))) (eC (.int 40009))) (e2 mulD (eC (.int 15013)) (e2 ixD (eVar 0) (eC (.int 2)))))]) (eC (.int 2147483629)))) (sSeq (sAsg (.sub (eVar 0) (eC (.int 1))) (e2 modD (eCall (f1 intF) [(e2 addD (e2 mulD (eVar 2) (e2 addD (e2 modD (eCall (f1 intF) [(eVar 2)]) (eC (.int 5003))) (eC (.int 20011)))) (e2 ixD (eVar 0) (eC (.int 2))))]) (eC (.int 2147483629)))) (sRet (e2 modD (eCall (f1 intF) [(e2 divD (e2 ixD (eVar 0) (eC (.int 1))) (eC (.int 1031)))]) (eVar 1)))))))
noncomputable def F__law_draw : Fu := runP 2 4 m__law_draw
theorem b__law_draw {w : World} {K : PySem.W.Frag} {mg : Str → Option Value} {base hp : Heap} {f : Addr} {cdv : Value} {A : Around} {outer : List Env} {s : Shared} {H : Hp} (X : K.In hp) (G : hp.Ns mainGlobals mg) (c : hd.obs K = hd.val)
    (hr : Room 0 (A.deeper (envOfC "_law_draw" (defScope (top 25)) s.heap.objs.size f cdv))) (hg : A.guards = some []) : PDSs (cxOf CN PG w K mg base N__law_draw "_law_draw" (defScope (top 25)) f cdv A outer s H EN) (defBody (top 25)) m__law_draw := by
  have hu1 : (A.deeper (envOfC "_law_draw" (defScope (top 25)) s.heap.objs.size f cdv)).units + 1 < cLine := by have := hr.un; omega
  have hu64 : (A.deeper (envOfC "_law_draw" (defScope (top 25)) s.heap.objs.size f cdv)).units + 64 < cLine := by have := hr.un; omega
  have hu65 : (A.deeper (envOfC "_law_draw" (defScope (top 25)) s.heap.objs.size f cdv)).units + 65 < cLine := by have := hr.un; omega
  have hu100 : (A.deeper (envOfC "_law_draw" (defScope (top 25)) s.heap.objs.size f cdv)).units + 100 < cLine := by have := hr.un; omega
  exact (pds_cons (pds_if (pt_c od_gt (pd_ix hu1 (pd_var (pv 0)) pd_int) pd_int (nomark _)) (pds_cons (pds_asg (pd_callB oc_divmod (fr_divmod X G c) (by decide +kernel) (pda_cons (pd_ix hu1 (pd_var (pv 0)) pd_int) (pda_cons (pd_var (pv 1)) pda_nil))) (pdg_tup rfl (pdgs_cons (pdg_sub hu1 (pd_var (pv 0)) pd_int) (pdgs_cons (pdg_name (pg_name sc__law_draw.nd (i := 3) rfl (Or.inl rfl))) pdgs_nil)) rfl)) (pds_one (pds_ret (pd_var (pv 3))))) pds_nil) (pds_cons (pds_asg (pd_op od_add (pd_ix hu1 (pd_var (pv 0)) pd_int) pd_int) (pdg_sub hu1 (pd_var (pv 0)) pd_int)) (pds_cons (pds_asg (pd_op od_mod (pd_callT oc_int (fr_int X G c) (by decide +kernel) (pda_cons (pd_op od_add (pd_op od_mul (pd_ix hu1 (pd_var (pv 0)) pd_int) pd_int) (pd_op od_mul pd_int (pd_ix hu1 (pd_var (pv 0)) pd_int))) pda_nil)) pd_int) (pdg_name (pg_name sc__law_draw.nd (i := 2) rfl (Or.inl rfl)))) (pds_cons (pds_asg (pd_op od_mod (pd_callT oc_int (fr_int X G c) (by decide +kernel) (pda_cons (pd_op od_add (pd_op od_mul (pd_var (pv 2)) (pd_op od_add (pd_op od_mod (pd_callT oc_int (fr_int X G c) (by decide +kernel) (pda_cons (pd_var (pv 2)) pda_nil)) pd_int) pd_int)) (pd_ix hu1 (pd_var (pv 0)) pd_int)) pda_nil)) pd_int) (pdg_sub hu1 (pd_var (pv 0)) pd_int)) (pds_one (pds_ret (pd_op od_mod (pd_callT oc_int (fr_int X G c) (by decide +kernel) (pda_cons (pd_op od_div (pd_ix hu1 (pd_var (pv 0)) pd_int) pd_int) pda_nil)) (pd_var (pv 1)))))))))
theorem u__law_draw {K : PySem.W.Frag} {mg : Str → Option Value} {hp : Heap} (X : K.In hp) (G : hp.Ns mainGlobals mg) (c : hd.obs K = hd.val) : ∃ fd, FunD K "_law_draw" "_law_draw" (defArgs (top 25)) (defBody (top 25)) (defScope (top 25)) [] [] (He.ga K "_law_draw") fd ∧ mg "_law_draw" = some (.ref (He.ga K "_law_draw")) := by
  obtain ⟨fd, F⟩ := (HdS.d c).def_ 1 (d := d__law_draw) rfl
  exact ⟨fd, F, He.glo_ok X G ((HdS.d c).fact 1 (f := .glo "_law_draw") rfl)⟩
theorem c__law_draw {w : World} {K : PySem.W.Frag} {mg : Str → Option Value} {base hp : Heap} (X : K.In hp) (G : hp.Ns mainGlobals mg) (c : hd.obs K = hd.val) : FnD PG w K mg base 1 "_law_draw" 2 F__law_draw := by
  obtain ⟨fd, F, gm⟩ := u__law_draw X G c
  exact fnD_of F gm sc__law_draw (F.bindsN fun _ _ _ _ _ _ us hl => match us, hl with | [_, _], _ => rfl) fun cdv A outer s H hr hg => b__law_draw X G c hr hg
def N__law_of : List Str := ["well", "some"]
theorem sc__law_of : FnScope N__law_of ["well", "some"] (defScope (top 26)) := ⟨rfl, rfl, rfl, by decide +kernel, rfl, by decide +kernel, by decide +kernel⟩
noncomputable def m__law_of : Sm := (sRet (e2 ixD (eVar 1) (eCall F__law_draw [(eVar 0), (eCall (f1 lenD) [(eVar 1)])])))
noncomputable def F__law_of : Fu := runP 2 2 m__law_of
theorem b__law_of {w : World} {K : PySem.W.Frag} {mg : Str → Option Value} {base hp : Heap} {f : Addr} {cdv : Value} {A : Around} {outer : List Env} {s : Shared} {H : Hp} (X : K.In hp) (G : hp.Ns mainGlobals mg) (c : hd.obs K = hd.val)
    (hr : Room 1 (A.deeper (envOfC "_law_of" (defScope (top 26)) s.heap.objs.size f cdv))) (hg : A.guards = some []) : PDSs (cxOf CN PG w K mg base N__law_of "_law_of" (defScope (top 26)) f cdv A outer s H EN) (defBody (top 26)) m__law_of := by
  have hu1 : (A.deeper (envOfC "_law_of" (defScope (top 26)) s.heap.objs.size f cdv)).units + 1 < cLine := by have := hr.un; omega
  have hu64 : (A.deeper (envOfC "_law_of" (defScope (top 26)) s.heap.objs.size f cdv)).units + 64 < cLine := by have := hr.un; omega
  have hu65 : (A.deeper (envOfC "_law_of" (defScope (top 26)) s.heap.objs.size f cdv)).units + 65 < cLine := by have := hr.un; omega
  have hu100 : (A.deeper (envOfC "_law_of" (defScope (top 26)) s.heap.objs.size f cdv)).units + 100 < cLine := by have := hr.un; omega
  exact (pds_one (pds_ret (pd_ix hu1 (pd_var (pv 1)) (pd_call ((c__law_draw X G c).mono (by decide)) hr hg (pda_cons (pd_var (pv 0)) (pda_cons (pd_callB oc_len (fr_len X G c) (by decide +kernel) (pda_cons (pd_var (pv 1)) pda_nil)) pda_nil))))))
theorem u__law_of {K : PySem.W.Frag} {mg : Str → Option Value} {hp : Heap} (X : K.In hp) (G : hp.Ns mainGlobals mg) (c : hd.obs K = hd.val) : ∃ fd, FunD K "_law_of" "_law_of" (defArgs (top 26)) (defBody (top 26)) (defScope (top 26)) [] [] (He.ga K "_law_of") fd ∧ mg "_law_of" = some (.ref (He.ga K "_law_of")) := by
  obtain ⟨fd, F⟩ := (HdS.d c).def_ 2 (d := d__law_of) rfl
  exact ⟨fd, F, He.glo_ok X G ((HdS.d c).fact 2 (f := .glo "_law_of") rfl)⟩
theorem c__law_of {w : World} {K : PySem.W.Frag} {mg : Str → Option Value} {base hp : Heap} (X : K.In hp) (G : hp.Ns mainGlobals mg) (c : hd.obs K = hd.val) : FnD PG w K mg base 2 "_law_of" 2 F__law_of := by
  obtain ⟨fd, F, gm⟩ := u__law_of X G c
  exact fnD_of F gm sc__law_of (F.bindsN fun _ _ _ _ _ _ us hl => match us, hl with | [_, _], _ => rfl) fun cdv A outer s H hr hg => b__law_of X G c hr hg
def N__law_value : List Str := ["well", "some"]
theorem sc__law_value : FnScope N__law_value ["well"] (defScope (top 30)) := ⟨rfl, rfl, rfl, by decide +kernel, rfl, by decide +kernel, by decide +kernel⟩
noncomputable def m__law_value : Sm := (sSeq (sAsg (.nm 1) (eTup [(eC .non), (eC (.bl true)), (eC (.bl false)), (eC (.int 0)), (e1 negD (eC (.int 1))), (eC (.int 7)), (e2 powD (eC (.int 10)) (eC (.int 50))), (eC (.str "")), (eC (.str "ann")), (eC (.str " ")), (eTup []), (eTup [(eC (.int 1)), (eTup [(eC (.str "a"))])]), (eLst []), eD0, (eLst [(eC (.str "x"))]), (eDis [((eC (.str "a")), (eC (.int 1)))])])) (sRet (eCall F__law_of [(eVar 0), (e2 addD (eVar 1) (eTup [(eTup [(eC .non), (eC (.bl true))])]))])))
noncomputable def F__law_value : Fu := runP 1 2 m__law_value
theorem b__law_value {w : World} {K : PySem.W.Frag} {mg : Str → Option Value} {base hp : Heap} {f : Addr} {cdv : Value} {A : Around} {outer : List Env} {s : Shared} {H : Hp} (X : K.In hp) (G : hp.Ns mainGlobals mg) (c : hd.obs K = hd.val)
    (hr : Room 2 (A.deeper (envOfC "_law_value" (defScope (top 30)) s.heap.objs.size f cdv))) (hg : A.guards = some []) : PDSs (cxOf CN PG w K mg base N__law_value "_law_value" (defScope (top 30)) f cdv A outer s H EN) (defBody (top 30)) m__law_value := by
  have hu1 : (A.deeper (envOfC "_law_value" (defScope (top 30)) s.heap.objs.size f cdv)).units + 1 < cLine := by have := hr.un; omega
  have hu64 : (A.deeper (envOfC "_law_value" (defScope (top 30)) s.heap.objs.size f cdv)).units + 64 < cLine := by have := hr.un; omega
  have hu65 : (A.deeper (envOfC "_law_value" (defScope (top 30)) s.heap.objs.size f cdv)).units + 65 < cLine := by have := hr.un; omega
  have hu100 : (A.deeper (envOfC "_law_value" (defScope (top 30)) s.heap.objs.size f cdv)).units + 100 < cLine := by have := hr.un; omega
  exact (pds_cons (pds_asg (pd_tup (pda_cons pd_non (pda_cons pd_bl (pda_cons pd_bl (pda_cons pd_int (pda_cons (pd_neg pd_int) (pda_cons pd_int (pda_cons (pd_op od_pow pd_int pd_int) (pda_cons pd_str (pda_cons pd_str (pda_cons pd_str (pda_cons (pd_tup pda_nil) (pda_cons (pd_tup (pda_cons pd_int (pda_cons (pd_tup (pda_cons pd_str pda_nil)) pda_nil))) (pda_cons (pd_lst pda_nil) (pda_cons pd_d0 (pda_cons (pd_lst (pda_cons pd_str pda_nil)) (pda_cons (pd_dis (kvs := [((eC (.str "a")), (eC (.int 1)))]) (pps_cons pd_str pd_int pps_nil)) pda_nil))))))))))))))))) (pdg_name (pg_name sc__law_value.nd (i := 1) rfl (Or.inl rfl)))) (pds_one (pds_ret (pd_call ((c__law_of X G c).mono (by decide)) hr hg (pda_cons (pd_var (pv 0)) (pda_cons (pd_op od_add (pd_var (pv 1)) (pd_tup (pda_cons (pd_tup (pda_cons pd_non (pda_cons pd_bl pda_nil))) pda_nil))) pda_nil))))))
theorem u__law_value {K : PySem.W.Frag} {mg : Str → Option Value} {hp : Heap} (X : K.In hp) (G : hp.Ns mainGlobals mg) (c : hd.obs K = hd.val) : ∃ fd, FunD K "_law_value" "_law_value" (defArgs (top 30)) (defBody (top 30)) (defScope (top 30)) [] [] (He.ga K "_law_value") fd ∧ mg "_law_value" = some (.ref (He.ga K "_law_value")) := by
  obtain ⟨fd, F⟩ := (HdS.d c).def_ 6 (d := d__law_value) rfl
  exact ⟨fd, F, He.glo_ok X G ((HdS.d c).fact 6 (f := .glo "_law_value") rfl)⟩
theorem c__law_value {w : World} {K : PySem.W.Frag} {mg : Str → Option Value} {base hp : Heap} (X : K.In hp) (G : hp.Ns mainGlobals mg) (c : hd.obs K = hd.val) : FnD PG w K mg base 3 "_law_value" 1 F__law_value := by
  obtain ⟨fd, F, gm⟩ := u__law_value X G c
  exact fnD_of F gm sc__law_value (F.bindsN fun _ _ _ _ _ _ us hl => match us, hl with | [_], _ => rfl) fun cdv A outer s H hr hg => b__law_value X G c hr hg
def N__law_made_a : List Str := ["word", "value", "is_named"]
theorem sc__law_made_a : FnScope N__law_made_a ["word", "value", "is_named"] (defScope (top 31)) := ⟨rfl, rfl, rfl, by decide +kernel, rfl, by decide +kernel, by decide +kernel⟩
noncomputable def m__law_made_a : Sm := (sSeq (sIf (tE (e2 eqD (eVar 0) (eC (.str "InvalidNumber")))) (sRet (eIf (tE (eVar 2)) (e1 (mkX "InvalidNumber" "given") (eVar 1)) (e1 (mkX "InvalidNumber" "given") (eVar 1)))) sNil) (sSeq (sIf (tE (e2 eqD (eVar 0) (eC (.str "UnknownDef")))) (sRet (eIf (tE (eVar 2)) (e1 (mkX "UnknownDef" "given") (eVar 1)) (e1 (mkX "UnknownDef" "given") (eVar 1)))) sNil) (sSeq (sIf (tE (e2 eqD (eVar 0) (eC (.str "InvalidMachine")))) (sRet (eIf (tE (eVar 2)) (e1 (mkX "InvalidMachine" "given") (eVar 1)) (e1 (mkX "InvalidMachine" "given") (eVar 1)))) sNil) (sSeq (sIf (tE (e2 eqD (eVar 0) (eC (.str "InvalidImage")))) (sRet (eIf (tE (eVar 2)) (e1 (mkX "InvalidImage" "given") (eVar 1)) (e1 (mkX "InvalidImage" "given") (eVar 1)))) sNil) (sSeq (sIf (tE (e2 eqD (eVar 0) (eC (.str "InvalidState")))) (sRet (eIf (tE (eVar 2)) (e1 (mkX "InvalidState" "given") (eVar 1)) (e1 (mkX "InvalidState" "given") (eVar 1)))) sNil) (sSeq (sIf (tE (e2 eqD (eVar 0) (eC (.str "InvalidUnit")))) (sRet (eIf (tE (eVar 2)) (e1 (mkX "InvalidUnit" "given") (eVar 1)) (e1 (mkX "InvalidUnit" "given") (eVar 1)))) sNil) (sSeq (sIf (tE (e2 eqD (eVar 0) (eC (.str "InvalidSide")))) (sRet (eIf (tE (eVar 2)) (e1 (mkX "InvalidSide" "given") (eVar 1)) (e1 (mkX "InvalidSide" "given") (eVar 1)))) sNil) (sSeq (sIf (tE (e2 eqD (eVar 0) (eC (.str "InvalidKinds")))) (sRet (eIf (tE (eVar 2)) (e1 (mkX "InvalidKinds" "given") (eVar 1)) (e1 (mkX "InvalidKinds" "given") (eVar 1)))) sNil) (sSeq (sIf (tE (e2 eqD (eVar 0) (eC (.str "InvalidLine")))) (sRet (eIf (tE (eVar 2)) (e1 (mkX "InvalidLine" "given") (eVar 1)) (e1 (mkX "InvalidLine" "given") (eVar 1)))) sNil) (sSeq (sIf (tE (e2 eqD (eVar 0) (eC (.str "NotADesk")))) (sRet (eIf (tE (eVar 2)) (e1 (mkX "NotADesk" "given") (eVar 1)) (e1 (mkX "NotADesk" "given") (eVar 1)))) sNil) (sSeq (sIf (tE (e2 eqD (eVar 0) (eC (.str "InvalidText")))) (sRet (eIf (tE (eVar 2)) (e1 (mkX "InvalidText" "index") (eVar 1)) (e1 (mkX "InvalidText" "index") (eVar 1)))) sNil) (sSeq (sIf (tE (e2 eqD (eVar 0) (eC (.str "InvalidInputs")))) (sRet (eIf (tE (eVar 2)) (e1 (mkX "InvalidInputs" "index") (eVar 1)) (e1 (mkX "InvalidInputs" "index") (eVar 1)))) sNil) (sSeq (sIf (tE (e2 eqD (eVar 0) (eC (.str "InvalidItinerary")))) (sRet (eIf (tE (eVar 2)) (e1 (mkX "InvalidItinerary" "index") (eVar 1)) (e1 (mkX "InvalidItinerary" "index") (eVar 1)))) sNil) (sSeq (sIf (tE (e2 eqD (eVar 0) (eC (.str "InvalidUnits")))) (sRet (eIf (tE (eVar 2)) (e1 (mkX "InvalidUnits" "index") (eVar 1)) (e1 (mkX "InvalidUnits" "index") (eVar 1)))) sNil) (sSeq (sIf (tE (e2 eqD (eVar 0) (eC (.str "InvalidCommands")))) (sRet (eIf (tE (eVar 2)) (e1 (mkX "InvalidCommands" "index") (eVar 1)) (e1 (mkX "InvalidCommands" "index") (eVar 1)))) sNil) (sSeq (sIf (tE (e2 eqD (eVar 0) (eC (.str "InvalidWords")))) (sRet (eIf (tE (eVar 2)) (e1 (mkX "InvalidWords" "index") (eVar 1)) (e1 (mkX "InvalidWords" "index") (eVar 1)))) sNil) (sSeq (sIf (tE (e2 eqD (eVar 0) (eC (.str "InvalidProgram")))) (sRet (eIf (tE (eVar 2)) (e1 (mkX "InvalidProgram" "where") (eVar 1)) (e1 (mkX "InvalidProgram" "where") (eVar 1)))) sNil) (sRet (eC .non)))))))))))))))))))
noncomputable def F__law_made_a : Fu := runP 3 3 m__law_made_a
theorem b__law_made_a {w : World} {K : PySem.W.Frag} {mg : Str → Option Value} {base hp : Heap} {f : Addr} {cdv : Value} {A : Around} {outer : List Env} {s : Shared} {H : Hp} (X : K.In hp) (G : hp.Ns mainGlobals mg) (c : hd.obs K = hd.val)
    (hr : Room 0 (A.deeper (envOfC "_law_made_a" (defScope (top 31)) s.heap.objs.size f cdv))) (hg : A.guards = some []) : PDSs (cxOf CN PG w K mg base N__law_made_a "_law_made_a" (defScope (top 31)) f cdv A outer s H EN) (defBody (top 31)) m__law_made_a := by
  have hu1 : (A.deeper (envOfC "_law_made_a" (defScope (top 31)) s.heap.objs.size f cdv)).units + 1 < cLine := by have := hr.un; omega
  have hu64 : (A.deeper (envOfC "_law_made_a" (defScope (top 31)) s.heap.objs.size f cdv)).units + 64 < cLine := by have := hr.un; omega
  have hu65 : (A.deeper (envOfC "_law_made_a" (defScope (top 31)) s.heap.objs.size f cdv)).units + 65 < cLine := by have := hr.un; omega
  have hu100 : (A.deeper (envOfC "_law_made_a" (defScope (top 31)) s.heap.objs.size f cdv)).units + 100 < cLine := by have := hr.un; omega
  exact (pds_cons (pds_if (pt_c (od_eq hu64) (pd_var (pv 0)) pd_str (nomark _)) (pds_one (pds_ret (pd_if (pt_v (pd_var (pv 2))) (pd_mkxK (s_InvalidNumber X G c) hr (pd_var (pv 1))) (pd_mkx (s_InvalidNumber X G c) hr (pd_var (pv 1)))))) pds_nil) (pds_cons (pds_if (pt_c (od_eq hu64) (pd_var (pv 0)) pd_str (nomark _)) (pds_one (pds_ret (pd_if (pt_v (pd_var (pv 2))) (pd_mkxK (s_UnknownDef X G c) hr (pd_var (pv 1))) (pd_mkx (s_UnknownDef X G c) hr (pd_var (pv 1)))))) pds_nil) (pds_cons (pds_if (pt_c (od_eq hu64) (pd_var (pv 0)) pd_str (nomark _)) (pds_one (pds_ret (pd_if (pt_v (pd_var (pv 2))) (pd_mkxK (s_InvalidMachine X G c) hr (pd_var (pv 1))) (pd_mkx (s_InvalidMachine X G c) hr (pd_var (pv 1)))))) pds_nil) (pds_cons (pds_if (pt_c (od_eq hu64) (pd_var (pv 0)) pd_str (nomark _)) (pds_one (pds_ret (pd_if (pt_v (pd_var (pv 2))) (pd_mkxK (s_InvalidImage X G c) hr (pd_var (pv 1))) (pd_mkx (s_InvalidImage X G c) hr (pd_var (pv 1)))))) pds_nil) (pds_cons (pds_if (pt_c (od_eq hu64) (pd_var (pv 0)) pd_str (nomark _)) (pds_one (pds_ret (pd_if (pt_v (pd_var (pv 2))) (pd_mkxK (s_InvalidState X G c) hr (pd_var (pv 1))) (pd_mkx (s_InvalidState X G c) hr (pd_var (pv 1)))))) pds_nil) (pds_cons (pds_if (pt_c (od_eq hu64) (pd_var (pv 0)) pd_str (nomark _)) (pds_one (pds_ret (pd_if (pt_v (pd_var (pv 2))) (pd_mkxK (s_InvalidUnit X G c) hr (pd_var (pv 1))) (pd_mkx (s_InvalidUnit X G c) hr (pd_var (pv 1)))))) pds_nil) (pds_cons (pds_if (pt_c (od_eq hu64) (pd_var (pv 0)) pd_str (nomark _)) (pds_one (pds_ret (pd_if (pt_v (pd_var (pv 2))) (pd_mkxK (s_InvalidSide X G c) hr (pd_var (pv 1))) (pd_mkx (s_InvalidSide X G c) hr (pd_var (pv 1)))))) pds_nil) (pds_cons (pds_if (pt_c (od_eq hu64) (pd_var (pv 0)) pd_str (nomark _)) (pds_one (pds_ret (pd_if (pt_v (pd_var (pv 2))) (pd_mkxK (s_InvalidKinds X G c) hr (pd_var (pv 1))) (pd_mkx (s_InvalidKinds X G c) hr (pd_var (pv 1)))))) pds_nil) (pds_cons (pds_if (pt_c (od_eq hu64) (pd_var (pv 0)) pd_str (nomark _)) (pds_one (pds_ret (pd_if (pt_v (pd_var (pv 2))) (pd_mkxK (s_InvalidLine X G c) hr (pd_var (pv 1))) (pd_mkx (s_InvalidLine X G c) hr (pd_var (pv 1)))))) pds_nil) (pds_cons (pds_if (pt_c (od_eq hu64) (pd_var (pv 0)) pd_str (nomark _)) (pds_one (pds_ret (pd_if (pt_v (pd_var (pv 2))) (pd_mkxK (s_NotADesk X G c) hr (pd_var (pv 1))) (pd_mkx (s_NotADesk X G c) hr (pd_var (pv 1)))))) pds_nil) (pds_cons (pds_if (pt_c (od_eq hu64) (pd_var (pv 0)) pd_str (nomark _)) (pds_one (pds_ret (pd_if (pt_v (pd_var (pv 2))) (pd_mkxK (s_InvalidText X G c) hr (pd_var (pv 1))) (pd_mkx (s_InvalidText X G c) hr (pd_var (pv 1)))))) pds_nil) (pds_cons (pds_if (pt_c (od_eq hu64) (pd_var (pv 0)) pd_str (nomark _)) (pds_one (pds_ret (pd_if (pt_v (pd_var (pv 2))) (pd_mkxK (s_InvalidInputs X G c) hr (pd_var (pv 1))) (pd_mkx (s_InvalidInputs X G c) hr (pd_var (pv 1)))))) pds_nil) (pds_cons (pds_if (pt_c (od_eq hu64) (pd_var (pv 0)) pd_str (nomark _)) (pds_one (pds_ret (pd_if (pt_v (pd_var (pv 2))) (pd_mkxK (s_InvalidItinerary X G c) hr (pd_var (pv 1))) (pd_mkx (s_InvalidItinerary X G c) hr (pd_var (pv 1)))))) pds_nil) (pds_cons (pds_if (pt_c (od_eq hu64) (pd_var (pv 0)) pd_str (nomark _)) (pds_one (pds_ret (pd_if (pt_v (pd_var (pv 2))) (pd_mkxK (s_InvalidUnits X G c) hr (pd_var (pv 1))) (pd_mkx (s_InvalidUnits X G c) hr (pd_var (pv 1)))))) pds_nil) (pds_cons (pds_if (pt_c (od_eq hu64) (pd_var (pv 0)) pd_str (nomark _)) (pds_one (pds_ret (pd_if (pt_v (pd_var (pv 2))) (pd_mkxK (s_InvalidCommands X G c) hr (pd_var (pv 1))) (pd_mkx (s_InvalidCommands X G c) hr (pd_var (pv 1)))))) pds_nil) (pds_cons (pds_if (pt_c (od_eq hu64) (pd_var (pv 0)) pd_str (nomark _)) (pds_one (pds_ret (pd_if (pt_v (pd_var (pv 2))) (pd_mkxK (s_InvalidWords X G c) hr (pd_var (pv 1))) (pd_mkx (s_InvalidWords X G c) hr (pd_var (pv 1)))))) pds_nil) (pds_cons (pds_if (pt_c (od_eq hu64) (pd_var (pv 0)) pd_str (nomark _)) (pds_one (pds_ret (pd_if (pt_v (pd_var (pv 2))) (pd_mkxK (s_InvalidProgram X G c) hr (pd_var (pv 1))) (pd_mkx (s_InvalidProgram X G c) hr (pd_var (pv 1)))))) pds_nil) (pds_one (pds_ret pd_non)))))))))))))))))))
theorem u__law_made_a {K : PySem.W.Frag} {mg : Str → Option Value} {hp : Heap} (X : K.In hp) (G : hp.Ns mainGlobals mg) (c : hd.obs K = hd.val) : ∃ fd, FunD K "_law_made_a" "_law_made_a" (defArgs (top 31)) (defBody (top 31)) (defScope (top 31)) [] [] (He.ga K "_law_made_a") fd ∧ mg "_law_made_a" = some (.ref (He.ga K "_law_made_a")) := by
  obtain ⟨fd, F⟩ := (HdS.d c).def_ 7 (d := d__law_made_a) rfl
  exact ⟨fd, F, He.glo_ok X G ((HdS.d c).fact 7 (f := .glo "_law_made_a") rfl)⟩
theorem c__law_made_a {w : World} {K : PySem.W.Frag} {mg : Str → Option Value} {base hp : Heap} (X : K.In hp) (G : hp.Ns mainGlobals mg) (c : hd.obs K = hd.val) : FnD PG w K mg base 1 "_law_made_a" 3 F__law_made_a := by
  obtain ⟨fd, F, gm⟩ := u__law_made_a X G c
  exact fnD_of F gm sc__law_made_a (F.bindsN fun _ _ _ _ _ _ us hl => match us, hl with | [_, _, _], _ => rfl) fun cdv A outer s H hr hg => b__law_made_a X G c hr hg
def N__law_made_b : List Str := ["word", "value", "is_named"]
theorem sc__law_made_b : FnScope N__law_made_b ["word", "value", "is_named"] (defScope (top 32)) := ⟨rfl, rfl, rfl, by decide +kernel, rfl, by decide +kernel, by decide +kernel⟩
noncomputable def m__law_made_b : Sm := (sSeq (sIf (tE (e2 eqD (eVar 0) (eC (.str "NotAccepted")))) (sRet (eIf (tE (eVar 2)) (e1 (mkX "NotAccepted" "where") (eVar 1)) (e1 (mkX "NotAccepted" "where") (eVar 1)))) sNil) (sRet (eC .non)))
noncomputable def F__law_made_b : Fu := runP 3 3 m__law_made_b
theorem b__law_made_b {w : World} {K : PySem.W.Frag} {mg : Str → Option Value} {base hp : Heap} {f : Addr} {cdv : Value} {A : Around} {outer : List Env} {s : Shared} {H : Hp} (X : K.In hp) (G : hp.Ns mainGlobals mg) (c : hd.obs K = hd.val)
    (hr : Room 0 (A.deeper (envOfC "_law_made_b" (defScope (top 32)) s.heap.objs.size f cdv))) (hg : A.guards = some []) : PDSs (cxOf CN PG w K mg base N__law_made_b "_law_made_b" (defScope (top 32)) f cdv A outer s H EN) (defBody (top 32)) m__law_made_b := by
  have hu1 : (A.deeper (envOfC "_law_made_b" (defScope (top 32)) s.heap.objs.size f cdv)).units + 1 < cLine := by have := hr.un; omega
  have hu64 : (A.deeper (envOfC "_law_made_b" (defScope (top 32)) s.heap.objs.size f cdv)).units + 64 < cLine := by have := hr.un; omega
  have hu65 : (A.deeper (envOfC "_law_made_b" (defScope (top 32)) s.heap.objs.size f cdv)).units + 65 < cLine := by have := hr.un; omega
  have hu100 : (A.deeper (envOfC "_law_made_b" (defScope (top 32)) s.heap.objs.size f cdv)).units + 100 < cLine := by have := hr.un; omega
  exact (pds_cons (pds_if (pt_c (od_eq hu64) (pd_var (pv 0)) pd_str (nomark _)) (pds_one (pds_ret (pd_if (pt_v (pd_var (pv 2))) (pd_mkxK (s_NotAccepted X G c) hr (pd_var (pv 1))) (pd_mkx (s_NotAccepted X G c) hr (pd_var (pv 1)))))) pds_nil) (pds_one (pds_ret pd_non)))
theorem u__law_made_b {K : PySem.W.Frag} {mg : Str → Option Value} {hp : Heap} (X : K.In hp) (G : hp.Ns mainGlobals mg) (c : hd.obs K = hd.val) : ∃ fd, FunD K "_law_made_b" "_law_made_b" (defArgs (top 32)) (defBody (top 32)) (defScope (top 32)) [] [] (He.ga K "_law_made_b") fd ∧ mg "_law_made_b" = some (.ref (He.ga K "_law_made_b")) := by
  obtain ⟨fd, F⟩ := (HdS.d c).def_ 8 (d := d__law_made_b) rfl
  exact ⟨fd, F, He.glo_ok X G ((HdS.d c).fact 8 (f := .glo "_law_made_b") rfl)⟩
theorem c__law_made_b {w : World} {K : PySem.W.Frag} {mg : Str → Option Value} {base hp : Heap} (X : K.In hp) (G : hp.Ns mainGlobals mg) (c : hd.obs K = hd.val) : FnD PG w K mg base 1 "_law_made_b" 3 F__law_made_b := by
  obtain ⟨fd, F, gm⟩ := u__law_made_b X G c
  exact fnD_of F gm sc__law_made_b (F.bindsN fun _ _ _ _ _ _ us hl => match us, hl with | [_, _, _], _ => rfl) fun cdv A outer s H hr hg => b__law_made_b X G c hr hg
def N__law_made : List Str := ["word", "value", "is_named", "found"]
theorem sc__law_made : FnScope N__law_made ["word", "value", "is_named"] (defScope (top 33)) := ⟨rfl, rfl, rfl, by decide +kernel, rfl, by decide +kernel, by decide +kernel⟩
noncomputable def m__law_made : Sm := (sSeq (sAsg (.nm 3) (eCall F__law_made_a [(eVar 0), (eVar 1), (eVar 2)])) (sSeq (sAsg (.nm 3) (eIf (tE (e2 isN (eVar 3) (eC .non))) (eCall F__law_made_b [(eVar 0), (eVar 1), (eVar 2)]) (eVar 3))) (sRet (eVar 3))))
noncomputable def F__law_made : Fu := runP 3 4 m__law_made
theorem b__law_made {w : World} {K : PySem.W.Frag} {mg : Str → Option Value} {base hp : Heap} {f : Addr} {cdv : Value} {A : Around} {outer : List Env} {s : Shared} {H : Hp} (X : K.In hp) (G : hp.Ns mainGlobals mg) (c : hd.obs K = hd.val)
    (hr : Room 1 (A.deeper (envOfC "_law_made" (defScope (top 33)) s.heap.objs.size f cdv))) (hg : A.guards = some []) : PDSs (cxOf CN PG w K mg base N__law_made "_law_made" (defScope (top 33)) f cdv A outer s H EN) (defBody (top 33)) m__law_made := by
  have hu1 : (A.deeper (envOfC "_law_made" (defScope (top 33)) s.heap.objs.size f cdv)).units + 1 < cLine := by have := hr.un; omega
  have hu64 : (A.deeper (envOfC "_law_made" (defScope (top 33)) s.heap.objs.size f cdv)).units + 64 < cLine := by have := hr.un; omega
  have hu65 : (A.deeper (envOfC "_law_made" (defScope (top 33)) s.heap.objs.size f cdv)).units + 65 < cLine := by have := hr.un; omega
  have hu100 : (A.deeper (envOfC "_law_made" (defScope (top 33)) s.heap.objs.size f cdv)).units + 100 < cLine := by have := hr.un; omega
  exact (pds_cons (pds_asg (pd_call ((c__law_made_a X G c).mono (by decide)) hr hg (pda_cons (pd_var (pv 0)) (pda_cons (pd_var (pv 1)) (pda_cons (pd_var (pv 2)) pda_nil)))) (pdg_name (pg_name sc__law_made.nd (i := 3) rfl (Or.inl rfl)))) (pds_cons (pds_asg (pd_if (pt_c od_is (pd_var (pv 3)) pd_non (nomark _)) (pd_call ((c__law_made_b X G c).mono (by decide)) hr hg (pda_cons (pd_var (pv 0)) (pda_cons (pd_var (pv 1)) (pda_cons (pd_var (pv 2)) pda_nil)))) (pd_var (pv 3))) (pdg_name (pg_name sc__law_made.nd (i := 3) rfl (Or.inl rfl)))) (pds_one (pds_ret (pd_var (pv 3))))))
theorem u__law_made {K : PySem.W.Frag} {mg : Str → Option Value} {hp : Heap} (X : K.In hp) (G : hp.Ns mainGlobals mg) (c : hd.obs K = hd.val) : ∃ fd, FunD K "_law_made" "_law_made" (defArgs (top 33)) (defBody (top 33)) (defScope (top 33)) [] [] (He.ga K "_law_made") fd ∧ mg "_law_made" = some (.ref (He.ga K "_law_made")) := by
  obtain ⟨fd, F⟩ := (HdS.d c).def_ 9 (d := d__law_made) rfl
  exact ⟨fd, F, He.glo_ok X G ((HdS.d c).fact 9 (f := .glo "_law_made") rfl)⟩
theorem c__law_made {w : World} {K : PySem.W.Frag} {mg : Str → Option Value} {base hp : Heap} (X : K.In hp) (G : hp.Ns mainGlobals mg) (c : hd.obs K = hd.val) : FnD PG w K mg base 2 "_law_made" 3 F__law_made := by
  obtain ⟨fd, F, gm⟩ := u__law_made X G c
  exact fnD_of F gm sc__law_made (F.bindsN fun _ _ _ _ _ _ us hl => match us, hl with | [_, _, _], _ => rfl) fun cdv A outer s H hr hg => b__law_made X G c hr hg
def N__law_right : List Str := ["well", "word", "had", "is_named", "value", "e", "kept"]
theorem sc__law_right : FnScope N__law_right ["well"] (defScope (top 37)) := ⟨rfl, rfl, rfl, by decide +kernel, rfl, by decide +kernel, by decide +kernel⟩
noncomputable def m__law_right : Sm := (sSeq (sFor (iV (e2 addD (eCall F__law_given []) (eCall F__law_index []))) (.nm 1) (sFor (iV (eTup [(eC (.bl false)), (eC (.bl true))])) (.nm 3) (sSeq (sAsg (.nm 4) (eCall F__law_value [(eVar 0)])) (sSeq (sAsg (.nm 5) (eCall F__law_made [(eVar 1), (eVar 4), (eVar 3)])) (sSeq (sAsg (.nm 6) (eIf (tE (e2 inD (eVar 1) (eCall F__law_given []))) (e1 (exF exC exF_ "given") (eVar 5)) (eC .non))) (sSeq (sIf (tE (e2 inD (eVar 1) (eTup [(eC (.str "InvalidProgram")), (eC (.str "NotAccepted"))]))) (sAsg (.nm 6) (e1 (exF exC exF_ "where") (eVar 5))) (sIf (tE (e2 niD (eVar 1) (eCall F__law_given []))) (sAsg (.nm 6) (e1 (exF exC exF_ "index") (eVar 5))) sNil)) (sIf (Cz.tOr (Cz.tNot (tE (eCall F__law_is [(eVar 6), (eVar 4)]))) (Cz.tNot (tE (eCall F__law_is_own [(eVar 5), (eVar 1)])))) (sRet (eC (.bl false))) sNil))))))) (sSeq (sAsg (.nm 2) (eLst [(eCall F__law_is_own [(eC (.exn0 "Unjoined")), (eC (.str "Unjoined"))]), (eCall F__law_is_own [(eC (.exn0 "Ended")), (eC (.str "Ended"))])])) (sSeq (sAsg (.nm 2) (e2 addD (eVar 2) (eLst [(eCall F__law_is_own [(eC (.exn0 "NothingDone")), (eC (.str "NothingDone"))])]))) (sRet (e2 eqD (eVar 2) (e2 mulD (eLst [(eC (.bl true))]) (eC (.int 3))))))))
noncomputable def F__law_right : Fu := runP 1 7 m__law_right
theorem b__law_right {w : World} {K : PySem.W.Frag} {mg : Str → Option Value} {base hp : Heap} {f : Addr} {cdv : Value} {A : Around} {outer : List Env} {s : Shared} {H : Hp} (X : K.In hp) (G : hp.Ns mainGlobals mg) (c : hd.obs K = hd.val)
    (hr : Room 3 (A.deeper (envOfC "_law_right" (defScope (top 37)) s.heap.objs.size f cdv))) (hg : A.guards = some []) : PDSs (cxOf CN PG w K mg base N__law_right "_law_right" (defScope (top 37)) f cdv A outer s H EN) (defBody (top 37)) m__law_right := by
  have hu1 : (A.deeper (envOfC "_law_right" (defScope (top 37)) s.heap.objs.size f cdv)).units + 1 < cLine := by have := hr.un; omega
  have hu64 : (A.deeper (envOfC "_law_right" (defScope (top 37)) s.heap.objs.size f cdv)).units + 64 < cLine := by have := hr.un; omega
  have hu65 : (A.deeper (envOfC "_law_right" (defScope (top 37)) s.heap.objs.size f cdv)).units + 65 < cLine := by have := hr.un; omega
  have hu100 : (A.deeper (envOfC "_law_right" (defScope (top 37)) s.heap.objs.size f cdv)).units + 100 < cLine := by have := hr.un; omega
  exact (pds_cons (pds_for (passes_of rfl) rfl (pdi_v (pd_op od_add (pd_call0 ((c__law_given X G c).mono (by decide)) hr hg) (pd_call0 ((c__law_index X G c).mono (by decide)) hr hg))) (pdg_name (pg_name sc__law_right.nd (i := 1) rfl (Or.inl rfl))) (pds_one (pds_for (passes_of rfl) rfl (pdi_v (pd_tup (pda_cons pd_bl (pda_cons pd_bl pda_nil)))) (pdg_name (pg_name sc__law_right.nd (i := 3) rfl (Or.inl rfl))) (pds_cons (pds_asg (pd_call ((c__law_value X G c).mono (by decide)) hr hg (pda_cons (pd_var (pv 0)) pda_nil)) (pdg_name (pg_name sc__law_right.nd (i := 4) rfl (Or.inl rfl)))) (pds_cons (pds_asg (pd_call ((c__law_made X G c).mono (by decide)) hr hg (pda_cons (pd_var (pv 1)) (pda_cons (pd_var (pv 4)) (pda_cons (pd_var (pv 3)) pda_nil)))) (pdg_name (pg_name sc__law_right.nd (i := 5) rfl (Or.inl rfl)))) (pds_cons (pds_asg (pd_if (pt_c (od_in hu65) (pd_var (pv 1)) (pd_call0 ((c__law_given X G c).mono (by decide)) hr hg) rfl) (pd_exf (z_exa X G c) (pd_var (pv 5))) pd_non) (pdg_name (pg_name sc__law_right.nd (i := 6) rfl (Or.inl rfl)))) (pds_cons (pds_if (pt_c (od_in hu65) (pd_var (pv 1)) (pd_tup (pda_cons pd_str (pda_cons pd_str pda_nil))) rfl) (pds_one (pds_asg (pd_exf (z_exa X G c) (pd_var (pv 5))) (pdg_name (pg_name sc__law_right.nd (i := 6) rfl (Or.inl rfl))))) (pds_one (pds_if (pt_c (od_ni hu65) (pd_var (pv 1)) (pd_call0 ((c__law_given X G c).mono (by decide)) hr hg) rfl) (pds_one (pds_asg (pd_exf (z_exa X G c) (pd_var (pv 5))) (pdg_name (pg_name sc__law_right.nd (i := 6) rfl (Or.inl rfl))))) pds_nil))) (pds_one (pds_if (pw_o (pt_n (pt_v (pd_call ((c__law_is X G c).mono (by decide)) hr hg (pda_cons (pd_var (pv 6)) (pda_cons (pd_var (pv 4)) pda_nil))))) (pw_o1 (pt_n (pt_v (pd_call ((c__law_is_own X G c).mono (by decide)) hr hg (pda_cons (pd_var (pv 5)) (pda_cons (pd_var (pv 1)) pda_nil))))))).pt (pds_one (pds_ret pd_bl)) pds_nil))))))))) (pds_cons (pds_asg (pd_lst (pda_cons (pd_call ((c__law_is_own X G c).mono (by decide)) hr hg (pda_cons (pd_mkx0 (s_Unjoined X G c)) (pda_cons pd_str pda_nil))) (pda_cons (pd_call ((c__law_is_own X G c).mono (by decide)) hr hg (pda_cons (pd_mkx0 (s_Ended X G c)) (pda_cons pd_str pda_nil))) pda_nil))) (pdg_name (pg_name sc__law_right.nd (i := 2) rfl (Or.inl rfl)))) (pds_cons (pds_asg (pd_op od_add (pd_var (pv 2)) (pd_lst (pda_cons (pd_call ((c__law_is_own X G c).mono (by decide)) hr hg (pda_cons (pd_mkx0 (s_NothingDone X G c)) (pda_cons pd_str pda_nil))) pda_nil))) (pdg_name (pg_name sc__law_right.nd (i := 2) rfl (Or.inl rfl)))) (pds_one (pds_ret (pd_cmp (od_eq hu64) (pd_var (pv 2)) (pd_op od_mul (pd_lst (pda_cons pd_bl pda_nil)) pd_int) (nomark _)))))))
theorem u__law_right {K : PySem.W.Frag} {mg : Str → Option Value} {hp : Heap} (X : K.In hp) (G : hp.Ns mainGlobals mg) (c : hd.obs K = hd.val) : ∃ fd, FunD K "_law_right" "_law_right" (defArgs (top 37)) (defBody (top 37)) (defScope (top 37)) [] [] (He.ga K "_law_right") fd ∧ mg "_law_right" = some (.ref (He.ga K "_law_right")) := by
  obtain ⟨fd, F⟩ := (HdS.d c).def_ 13 (d := d__law_right) rfl
  exact ⟨fd, F, He.glo_ok X G ((HdS.d c).fact 13 (f := .glo "_law_right") rfl)⟩
theorem c__law_right {w : World} {K : PySem.W.Frag} {mg : Str → Option Value} {base hp : Heap} (X : K.In hp) (G : hp.Ns mainGlobals mg) (c : hd.obs K = hd.val) : FnD PG w K mg base 4 "_law_right" 1 F__law_right := by
  obtain ⟨fd, F, gm⟩ := u__law_right X G c
  exact fnD_of F gm sc__law_right (F.bindsN fun _ _ _ _ _ _ us hl => match us, hl with | [_], _ => rfl) fun cdv A outer s H hr hg => b__law_right X G c hr hg
def N__law_well : List Str := ["script", "lap", "stirred", "cell", "own"]
theorem sc__law_well : FnScope N__law_well ["script", "lap"] (defScope (top 24)) := ⟨rfl, rfl, rfl, by decide +kernel, rfl, by decide +kernel, by decide +kernel⟩
noncomputable def m__law_well : Sm := (sSeq (sAsg (.nm 2) (e2 addD (eC (.int 4111171)) (e2 mulD (eC (.int 5231)) (eVar 1)))) (sSeq (sFor (iV (eSl (eVar 0) pNone (pE (eC (.int 9))))) (.nm 3) (sAsg (.nm 2) (e2 modD (eCall (f1 intF) [(e2 addD (e2 addD (e2 mulD (eVar 2) (eC (.int 47521))) (e2 modD (eCall (f1 intF) [(eVar 3)]) (eC (.int 2147483549)))) (eC (.int 41)))]) (eC (.int 2147483629))))) (sSeq (sAsg (.nm 4) (eIf (tE (e2 ltD (eVar 1) (eCall (f1 lenD) [(eVar 0)]))) (eCall (f1 intF) [(e2 ixD (eVar 0) (eVar 1))]) (eC (.int 0)))) (sSeq (sAsg (.nm 2) (e2 modD (eCall (f1 intF) [(e2 addD (e2 addD (e2 mulD (eVar 2) (eC (.int 61))) (e2 mulD (e2 modD (eCall (f1 intF) [(eVar 4)]) (eC (.int 2147483549))) (eC (.int 16007)))) (eC (.int 17)))]) (eC (.int 2147483629)))) (sRet (eNew [(eIf (Cz.tOr (tE (e2 ltD (eVar 4) (eC (.int 0)))) (tE (e2 (intOp fun i j => .bl (decide (j ≤ i))) (eVar 4) (e2 powD (eC (.int 10)) (eC (.int 15)))))) (eCall (f1 absD) [(eVar 4)]) (eC (.int 0))), (eVar 2), (eC (.int 0))]))))))
noncomputable def F__law_well : Fu := runP 2 5 m__law_well
theorem b__law_well {w : World} {K : PySem.W.Frag} {mg : Str → Option Value} {base hp : Heap} {f : Addr} {cdv : Value} {A : Around} {outer : List Env} {s : Shared} {H : Hp} (X : K.In hp) (G : hp.Ns mainGlobals mg) (c : hd.obs K = hd.val)
    (hr : Room 0 (A.deeper (envOfC "_law_well" (defScope (top 24)) s.heap.objs.size f cdv))) (hg : A.guards = some []) : PDSs (cxOf CN PG w K mg base N__law_well "_law_well" (defScope (top 24)) f cdv A outer s H EN) (defBody (top 24)) m__law_well := by
  have hu1 : (A.deeper (envOfC "_law_well" (defScope (top 24)) s.heap.objs.size f cdv)).units + 1 < cLine := by have := hr.un; omega
  have hu64 : (A.deeper (envOfC "_law_well" (defScope (top 24)) s.heap.objs.size f cdv)).units + 64 < cLine := by have := hr.un; omega
  have hu65 : (A.deeper (envOfC "_law_well" (defScope (top 24)) s.heap.objs.size f cdv)).units + 65 < cLine := by have := hr.un; omega
  have hu100 : (A.deeper (envOfC "_law_well" (defScope (top 24)) s.heap.objs.size f cdv)).units + 100 < cLine := by have := hr.un; omega
  exact (pds_cons (pds_asg (pd_op od_add pd_int (pd_op od_mul pd_int (pd_var (pv 1)))) (pdg_name (pg_name sc__law_well.nd (i := 2) rfl (Or.inl rfl)))) (pds_cons (pds_for (passes_of rfl) rfl (pdi_v (pd_sl (pd_var (pv 0)) pdo_none (pdo_some pd_int))) (pdg_name (pg_name sc__law_well.nd (i := 3) rfl (Or.inl rfl))) (pds_one (pds_asg (pd_op od_mod (pd_callT oc_int (fr_int X G c) (by decide +kernel) (pda_cons (pd_op od_add (pd_op od_add (pd_op od_mul (pd_var (pv 2)) pd_int) (pd_op od_mod (pd_callT oc_int (fr_int X G c) (by decide +kernel) (pda_cons (pd_var (pv 3)) pda_nil)) pd_int)) pd_int) pda_nil)) pd_int) (pdg_name (pg_name sc__law_well.nd (i := 2) rfl (Or.inl rfl)))))) (pds_cons (pds_asg (pd_if (pt_c od_lt (pd_var (pv 1)) (pd_callB oc_len (fr_len X G c) (by decide +kernel) (pda_cons (pd_var (pv 0)) pda_nil)) (nomark _)) (pd_callT oc_int (fr_int X G c) (by decide +kernel) (pda_cons (pd_ix hu1 (pd_var (pv 0)) (pd_var (pv 1))) pda_nil)) pd_int) (pdg_name (pg_name sc__law_well.nd (i := 4) rfl (Or.inl rfl)))) (pds_cons (pds_asg (pd_op od_mod (pd_callT oc_int (fr_int X G c) (by decide +kernel) (pda_cons (pd_op od_add (pd_op od_add (pd_op od_mul (pd_var (pv 2)) pd_int) (pd_op od_mul (pd_op od_mod (pd_callT oc_int (fr_int X G c) (by decide +kernel) (pda_cons (pd_var (pv 4)) pda_nil)) pd_int) pd_int)) pd_int) pda_nil)) pd_int) (pdg_name (pg_name sc__law_well.nd (i := 2) rfl (Or.inl rfl)))) (pds_one (pds_ret (pd_new (pda_cons (pd_if (pw_o (pt_c od_lt (pd_var (pv 4)) pd_int (nomark _)) (pw_o1 (pt_c od_ge (pd_var (pv 4)) (pd_op od_pow pd_int pd_int) (nomark _)))).pt (pd_callB oc_abs (fr_abs X G c) (by decide +kernel) (pda_cons (pd_var (pv 4)) pda_nil)) pd_int) (pda_cons (pd_var (pv 2)) (pda_cons pd_int pda_nil))))))))))
theorem u__law_well {K : PySem.W.Frag} {mg : Str → Option Value} {hp : Heap} (X : K.In hp) (G : hp.Ns mainGlobals mg) (c : hd.obs K = hd.val) : ∃ fd, FunD K "_law_well" "_law_well" (defArgs (top 24)) (defBody (top 24)) (defScope (top 24)) [] [] (He.ga K "_law_well") fd ∧ mg "_law_well" = some (.ref (He.ga K "_law_well")) := by
  obtain ⟨fd, F⟩ := (HdS.d c).def_ 0 (d := d__law_well) rfl
  exact ⟨fd, F, He.glo_ok X G ((HdS.d c).fact 0 (f := .glo "_law_well") rfl)⟩
theorem c__law_well {w : World} {K : PySem.W.Frag} {mg : Str → Option Value} {base hp : Heap} (X : K.In hp) (G : hp.Ns mainGlobals mg) (c : hd.obs K = hd.val) : FnD PG w K mg base 1 "_law_well" 2 F__law_well := by
  obtain ⟨fd, F, gm⟩ := u__law_well X G c
  exact fnD_of F gm sc__law_well (F.bindsN fun _ _ _ _ _ _ us hl => match us, hl with | [_, _], _ => rfl) fun cdv A outer s H hr hg => b__law_well X G c hr hg
def N_law : List Str := ["script", "lap"]
theorem sc_law : FnScope N_law ["script"] (defScope (top 38)) := ⟨rfl, rfl, rfl, by decide +kernel, rfl, by decide +kernel, by decide +kernel⟩
noncomputable def m_law : Sm := (sRet (eCall (f1 allD) [(eLc [1] ⟨(iR1 (eCall (f2 maxD) [(eC (.int 1)), (eCall (f2 minD) [(eCall (f1 lenD) [(eVar 0)]), (eC (.int 2))])])), (.nm 1), (fun _ L => .ok true L)⟩ [] (eCall F__law_right [(eCall F__law_well [(eVar 0), (eVar 1)])]))]))
noncomputable def F_law : Fu := runP 1 2 m_law
theorem b_law {w : World} {K : PySem.W.Frag} {mg : Str → Option Value} {base hp : Heap} {f : Addr} {cdv : Value} {A : Around} {outer : List Env} {s : Shared} {H : Hp} (X : K.In hp) (G : hp.Ns mainGlobals mg) (c : hd.obs K = hd.val)
    (hr : Room 4 (A.deeper (envOfC "law" (defScope (top 38)) s.heap.objs.size f cdv))) (hg : A.guards = some []) : PDSs (cxOf CN PG w K mg base N_law "law" (defScope (top 38)) f cdv A outer s H EN) (defBody (top 38)) m_law := by
  have hu1 : (A.deeper (envOfC "law" (defScope (top 38)) s.heap.objs.size f cdv)).units + 1 < cLine := by have := hr.un; omega
  have hu64 : (A.deeper (envOfC "law" (defScope (top 38)) s.heap.objs.size f cdv)).units + 64 < cLine := by have := hr.un; omega
  have hu65 : (A.deeper (envOfC "law" (defScope (top 38)) s.heap.objs.size f cdv)).units + 65 < cLine := by have := hr.un; omega
  have hu100 : (A.deeper (envOfC "law" (defScope (top 38)) s.heap.objs.size f cdv)).units + 100 < cLine := by have := hr.un; omega
  exact (pds_one (pds_ret (pd_callB (oc_all rfl) (fr_all X G c) (by decide +kernel) (pda_cons (pd_lc (own := [("lap", 1)]) rfl sc_law.nd (pdi_r1 (fr_range X G c) (pd_callB (oc_max rfl) (fr_max X G c) (by decide +kernel) (pda_cons pd_int (pda_cons (pd_callB (oc_min rfl) (fr_min X G c) (by decide +kernel) (pda_cons (pd_callB oc_len (fr_len X G c) (by decide +kernel) (pda_cons (pd_var (pv 0)) pda_nil)) (pda_cons pd_int pda_nil))) pda_nil)))) (show BlkOk N_law (defScope (top 38)) _ _ from ⟨rfl, by decide +kernel, by decide +kernel, by decide +kernel, by decide +kernel⟩) (fun _ _ _ _ _ => ⟨(pdg_name (pg_name sc_law.nd (i := 1) rfl (Or.inl rfl))), pdt0, .nil, (pd_call ((c__law_right X G c).mono (by decide)) hr hg (pda_cons (pd_call ((c__law_well X G c).mono (by decide)) hr hg (pda_cons (pd_var (pv 0)) (pda_cons (pd_var (pv 1)) pda_nil))) pda_nil))⟩)) pda_nil))))
theorem u_law {K : PySem.W.Frag} {mg : Str → Option Value} {hp : Heap} (X : K.In hp) (G : hp.Ns mainGlobals mg) (c : hd.obs K = hd.val) : ∃ fd, FunD K "law" "law" (defArgs (top 38)) (defBody (top 38)) (defScope (top 38)) [] [] (He.ga K "law") fd ∧ mg "law" = some (.ref (He.ga K "law")) := by
  obtain ⟨fd, F⟩ := (HdS.d c).def_ 14 (d := d_law) rfl
  exact ⟨fd, F, He.glo_ok X G ((HdS.d c).fact 14 (f := .glo "law") rfl)⟩
theorem c_law {w : World} {K : PySem.W.Frag} {mg : Str → Option Value} {base hp : Heap} (X : K.In hp) (G : hp.Ns mainGlobals mg) (c : hd.obs K = hd.val) : FnD PG w K mg base 5 "law" 1 F_law := by
  obtain ⟨fd, F, gm⟩ := u_law X G c
  exact fnD_of F gm sc_law (F.bindsN fun _ _ _ _ _ _ us hl => match us, hl with | [_], _ => rfl) fun cdv A outer s H hr hg => b_law X G c hr hg
end K01
set_option linter.all false
set_option autoImplicit false
set_option maxRecDepth 100000
set_option maxHeartbeats 1000000
namespace K01
open PySem L2 Cz
theorem put_nm {i : Nat} {d : D} {ρ : Rho} {L : LH} : (Tg.nm i).put d ρ L = .ok (ρ.set i (some d)) L := by simp only [Tg.put]
theorem put_tp {ts : List Tg} {xs : List D} {ρ : Rho} {L : LH} : (Tg.tp ts).put (.tup xs) ρ L = if xs.length = ts.length then putA ts xs ρ L else .bad := by simp only [Tg.put]
theorem put_sub {o i : Ex} {d : D} {ρ : Rho} {L : LH} : (Tg.sub o i).put d ρ L = (o ρ L).bind fun x L => (i ρ L).bind fun y L => (setIx x y d L).bind fun _ L => .ok ρ L := by simp only [Tg.put]
theorem putA_cons {t : Tg} {ts : List Tg} {d : D} {ds : List D} {ρ : Rho} {L : LH} : putA (t :: ts) (d :: ds) ρ L = (t.put d ρ L).bind (putA ts ds) := by simp only [putA]
theorem putA_nil {ρ : Rho} {L : LH} : putA [] [] ρ L = .ok ρ L := by simp only [putA]
/-! ### the well: draws -/
section
variable {L : LH} {i : Nat} {x y z d : D}
theorem ix0 (h : L[i]? = some (some (.lst [x, y, z]))) : ixD (.ref i) (.int 0) L = .ok x L := by unfold ixD deref; simp only [h]; rfl
theorem ix1 (h : L[i]? = some (some (.lst [x, y, z]))) : ixD (.ref i) (.int 1) L = .ok y L := by unfold ixD deref; simp only [h]; rfl
theorem ix2 (h : L[i]? = some (some (.lst [x, y, z]))) : ixD (.ref i) (.int 2) L = .ok z L := by unfold ixD deref; simp only [h]; rfl
theorem st0 (h : L[i]? = some (some (.lst [x, y, z]))) : setIx (.ref i) (.int 0) d L = .ok () (L.set i (some (.lst [d, y, z]))) := by unfold setIx; simp only [h]; rfl
theorem st1 (h : L[i]? = some (some (.lst [x, y, z]))) : setIx (.ref i) (.int 1) d L = .ok () (L.set i (some (.lst [x, d, z]))) := by unfold setIx; simp only [h]; rfl
theorem st2 (h : L[i]? = some (some (.lst [x, y, z]))) : setIx (.ref i) (.int 2) d L = .ok () (L.set i (some (.lst [x, y, d]))) := by unfold setIx; simp only [h]; rfl
end
def Wl (L : LH) (i : Nat) : Prop := ∃ a b c : Int, L[i]? = some (some (.lst [.int a, .int b, .int c])) ∧ 0 ≤ a ∧ 0 ≤ b ∧ b < 2147483629
theorem add_int {i j : Int} {L : LH} : addD (.int i) (.int j) L = .ok (.int (i + j)) L := rfl
theorem mul_int {i j : Int} {L : LH} (h : (-(2 ^ 64) < i ∧ i < 2 ^ 64) ∨ (-(2 ^ 64) < j ∧ j < 2 ^ 64)) : mulD (.int i) (.int j) L = .ok (.int (i * j)) L := by
  show (if _ then _ else _) = _
  rw [if_pos h]
theorem mod_int {i j : Int} {L : LH} (h : 0 < j) : modD (.int i) (.int j) L = .ok (.int (i % j)) L := by
  show (if _ then _ else _) = _
  rw [if_pos h]
theorem div_int {i j : Int} {L : LH} (h : 0 < j ∧ j < 1073741824) : divD (.int i) (.int j) L = .ok (.int (i / j)) L := by
  show (if _ then _ else _) = _
  rw [if_pos h]
theorem dm_int {i j : Int} {L : LH} (h : 0 < j ∧ j < 1073741824) : dmD (.int i) (.int j) L = .ok (.tup [.int (i / j), .int (i % j)]) L := by
  show (if _ then _ else _) = _
  rw [if_pos h]
theorem draw_ok {L : LH} {i : Nat} {n : Int} (h : Wl L i) (hn : 0 < n) (hn2 : n < 1073741824) : ∃ d L', F__law_draw [.ref i, .int n] L = .ok (.int d) L' ∧ 0 ≤ d ∧ d < n ∧ Wl L' i ∧ L'.length = L.length := by
  obtain ⟨a, b, c, hL, ha, hb, hb2⟩ := h
  have lt : i < L.length := (List.getElem?_eq_some_iff.mp hL).1
  by_cases h0 : 0 < a
  · refine ⟨a % n, L.set i (some (.lst [.int (a / n), .int b, .int c])), ?_, Int.emod_nonneg _ (by omega), Int.emod_lt_of_pos _ hn, ⟨a / n, b, c, by rw [List.getElem?_set_self lt], Int.ediv_nonneg ha (by omega), hb, hb2⟩, by simp⟩
    simp [F__law_draw, runP, runD, m__law_draw, sSeq, sIf, sAsg, sRet, tE, bOf, e2, eVar, eC, eCall, eArgs, f2, f1, ix0 hL, intOp, h0, dm_int ⟨hn, hn2⟩, put_nm, put_tp, put_sub, putA_cons, putA_nil, st0 hL]
  · have s1 : (L.set i (some (.lst [.int a, .int b, .int (c + 1)])))[i]? = some (some (.lst [.int a, .int b, .int (c + 1)])) := by rw [List.getElem?_set_self lt]
    have m0 : 0 ≤ (b * 40009 + 15013 * (c + 1)) % 2147483629 := Int.emod_nonneg _ (by omega)
    have m1 : (b * 40009 + 15013 * (c + 1)) % 2147483629 < 2147483629 := Int.emod_lt_of_pos _ (by omega)
    generalize hm : (b * 40009 + 15013 * (c + 1)) % 2147483629 = m at m0 m1
    generalize hb' : (m * (m % 5003 + 20011) + (c + 1)) % 2147483629 = b'
    have s2 : ((L.set i (some (.lst [.int a, .int b, .int (c + 1)]))).set i (some (.lst [.int a, .int b', .int (c + 1)])))[i]? = some (some (.lst [.int a, .int b', .int (c + 1)])) := by rw [List.getElem?_set_self (by simpa using lt)]
    refine ⟨b' / 1031 % n, (L.set i (some (.lst [.int a, .int b, .int (c + 1)]))).set i (some (.lst [.int a, .int b', .int (c + 1)])), ?_, Int.emod_nonneg _ (by omega), Int.emod_lt_of_pos _ hn, ⟨a, b', c + 1, s2, ha, by rw [← hb']; exact Int.emod_nonneg _ (by omega), by rw [← hb']; exact Int.emod_lt_of_pos _ (by omega)⟩, by simp⟩
    have q1 : ∀ L, mulD (.int b) (.int 40009) L = .ok (.int (b * 40009)) L := fun L => mul_int (.inr (by omega))
    have q2 : ∀ (L : LH) (j : Int), mulD (.int 15013) (.int j) L = .ok (.int (15013 * j)) L := fun L j => mul_int (.inl (by omega))
    have q3 : ∀ (L : LH) (j : Int), mulD (.int m) (.int j) L = .ok (.int (m * j)) L := fun L j => mul_int (.inl (by omega))
    have q4 : ∀ (L : LH) (j : Int), modD (.int j) (.int 2147483629) L = .ok (.int (j % 2147483629)) L := fun L j => mod_int (by omega)
    have q5 : ∀ (L : LH) (j : Int), modD (.int j) (.int 5003) L = .ok (.int (j % 5003)) L := fun L j => mod_int (by omega)
    have q6 : ∀ (L : LH) (j : Int), modD (.int j) (.int n) L = .ok (.int (j % n)) L := fun L j => mod_int hn
    have q7 : ∀ (L : LH) (j : Int), divD (.int j) (.int 1031) L = .ok (.int (j / 1031)) L := fun L j => div_int (by omega)
    simp [-List.set_set, F__law_draw, runP, runD, m__law_draw, sSeq, sIf, sNil, sAsg, sRet, tE, bOf, e2, eVar, eC, eCall, eArgs, f2, f1, intF, ix0 hL, ix2 hL, ix1 hL, intOp, h0, put_nm, put_tp, put_sub, putA_cons, putA_nil, st2 hL, add_int, ix1 s1, ix2 s1, st1 s1, ix1 s2, q1, q2, q3, q4, q5, q6, q7, hm, hb']
theorem go_nil {t : Tg} {b : Sm} {ρ : Rho} {L : LH} : forGo none t b [] ρ L = .ok (.nx, ρ) L := by unfold forGo; exact if_pos trivial
theorem go_cons {t : Tg} {b : Sm} {d : D} {ds : List D} {ρ : Rho} {L : LH} : forGo none t b (d :: ds) ρ L = (t.put d ρ L).bind fun ρ L => (b ρ L).bind fun r L => match r with
      | (.nx, ρ) => forGo none t b ds ρ L
      | (.ct, ρ) => forGo none t b ds ρ L
      | (.bk, ρ) => .ok (.nx, ρ) L
      | (.rt d, ρ) => .ok (.rt d, ρ) L := by
  rw [forGo]; exact if_pos trivial
theorem atI_nat {α : Type} {xs : List α} {j : Nat} (h : j < xs.length) : L2.atI xs (j : Int) = some xs[j] := by
  unfold L2.atI L2.ixN
  simp [h]
def Bw : Sm := (sAsg (.nm 2) (e2 modD (eCall (f1 intF) [(e2 addD (e2 addD (e2 mulD (eVar 2) (eC (.int 47521))) (e2 modD (eCall (f1 intF) [(eVar 3)]) (eC (.int 2147483549)))) (eC (.int 41)))]) (eC (.int 2147483629))))
theorem loop_ok {a b : Option D} {x4 : Option D} {L : LH} : ∀ (cs : List Int) (st : Int) (x3 : Option D), 0 ≤ st → st < 2 ^ 60 → ∃ st' y3, forGo none (.nm 3) Bw (cs.map D.int) [a, b, some (.int st), x3, x4] L = .ok (.nx, [a, b, some (.int st'), y3, x4]) L ∧ 0 ≤ st' ∧ st' < 2 ^ 60
  | [], st, x3, h0, h1 => ⟨st, x3, go_nil, h0, h1⟩
  | c :: cs, st, x3, h0, h1 => by
    have q1 : ∀ L, mulD (.int st) (.int 47521) L = .ok (.int (st * 47521)) L := fun L => mul_int (.inr (by omega))
    have q4 : ∀ (L : LH) (j : Int), modD (.int j) (.int 2147483629) L = .ok (.int (j % 2147483629)) L := fun L j => mod_int (by omega)
    have q5 : ∀ (L : LH) (j : Int), modD (.int j) (.int 2147483549) L = .ok (.int (j % 2147483549)) L := fun L j => mod_int (by omega)
    have m0 : 0 ≤ (st * 47521 + c % 2147483549 + 41) % 2147483629 := Int.emod_nonneg _ (by omega)
    have m1 : (st * 47521 + c % 2147483549 + 41) % 2147483629 < 2147483629 := Int.emod_lt_of_pos _ (by omega)
    obtain ⟨st', y3, e, z1, z2⟩ := loop_ok (a := a) (b := b) (x4 := x4) (L := L) cs _ (some (.int c)) m0 (by omega)
    refine ⟨st', y3, ?_, z1, z2⟩
    have hB : Bw [a, b, some (.int st), some (.int c), x4] L = .ok (.nx, [a, b, some (.int ((st * 47521 + c % 2147483549 + 41) % 2147483629)), some (.int c), x4]) L := by
      simp [Bw, sAsg, e2, eVar, eC, eCall, eArgs, f1, intF, put_nm, add_int, q1, q4, q5]
    rw [List.map_cons, go_cons, put_nm]
    show (Bw [a, b, some (.int st), some (.int c), x4] L).bind _ = _
    rw [hB]
    exact e
theorem well_ok (ns : List Int) (lap : Nat) (L : LH) (hl : lap < 100) : ∃ L', F__law_well [.scr ns, .int lap] L = .ok (.ref L.length) L' ∧ Wl L' L.length ∧ L'.length = L.length + 1 := by
  have q0 : ∀ L, mulD (.int 5231) (.int lap) L = .ok (.int (5231 * lap)) L := fun L => mul_int (.inl (by omega))
  obtain ⟨st, y3, e, z1, z2⟩ := loop_ok (a := some (.scr ns)) (b := some (.int lap)) (x4 := none) (L := L) (cut ns none (some 9)) (4111171 + 5231 * lap) none (by omega) (by omega)
  have hown : ∃ own : Int, eIf (tE (Cz.e2 ltD (eVar 1) (eCall (f1 lenD) [eVar 0]))) (eCall (f1 intF) [Cz.e2 ixD (eVar 0) (eVar 1)]) (eC (.int 0)) [some (.scr ns), some (.int lap), some (.int st), y3, none] L = .ok (.int own) L := by
    by_cases h : lap < ns.length
    · refine ⟨ns[lap], ?_⟩
      have h' : (lap : Int) < (ns.length : Int) := by omega
      simp [eIf, tE, e2, eVar, eCall, eArgs, f1, lenD, deref, ltD, bOf, h', ixD, atI_nat h, intF, h]
    · refine ⟨0, ?_⟩
      have h' : ¬ (lap : Int) < (ns.length : Int) := by omega
      simp [eIf, tE, e2, eVar, eCall, eArgs, f1, lenD, deref, ltD, bOf, h', eC, h]
  obtain ⟨own, hown⟩ := hown
  have q1 : ∀ L, mulD (.int st) (.int 61) L = .ok (.int (st * 61)) L := fun L => mul_int (.inr (by omega))
  have q2 : ∀ (L : LH) (j : Int), mulD (.int j) (.int 16007) L = .ok (.int (j * 16007)) L := fun L j => mul_int (.inr (by omega))
  have q4 : ∀ (L : LH) (j : Int), modD (.int j) (.int 2147483629) L = .ok (.int (j % 2147483629)) L := fun L j => mod_int (by omega)
  have q5 : ∀ (L : LH) (j : Int), modD (.int j) (.int 2147483549) L = .ok (.int (j % 2147483549)) L := fun L j => mod_int (by omega)
  generalize hb : (st * 61 + own % 2147483549 * 16007 + 17) % 2147483629 = b
  have hb0 : 0 ≤ b ∧ b < 2147483629 := by rw [← hb]; exact ⟨Int.emod_nonneg _ (by omega), Int.emod_lt_of_pos _ (by omega)⟩
  have hp : ∀ L : LH, powD (.int 10) (.int 15) L = .ok (.int 1000000000000000) L := fun L => rfl
  have hlast : ∃ a : Int, 0 ≤ a ∧ eNew [(eIf (Cz.tOr (tE (Cz.e2 ltD (eVar 4) (eC (.int 0)))) (tE (Cz.e2 (intOp fun i j => .bl (decide (j ≤ i))) (eVar 4) (Cz.e2 powD (eC (.int 10)) (eC (.int 15)))))) (eCall (f1 absD) [(eVar 4)]) (eC (.int 0))), (eVar 2), (eC (.int 0))] [some (.scr ns), some (.int lap), some (.int b), y3, some (.int own)] L = .ok (.ref L.length) (L ++ [some (.lst [.int a, .int b, .int 0])]) := by
    by_cases h1 : own < 0
    · refine ⟨-own, by omega, ?_⟩
      simp [eNew, eArgs, eIf, Cz.tOr, tE, e2, eVar, eC, ltD, bOf, h1, eCall, f1, absD, show (3 : Nat) ≤ sz by decide]
    · by_cases h2 : 1000000000000000 ≤ own
      · refine ⟨own, by omega, ?_⟩
        simp [eNew, eArgs, eIf, Cz.tOr, tE, e2, eVar, eC, ltD, bOf, h1, hp, intOp, h2, eCall, f1, absD, show (3 : Nat) ≤ sz by decide]
      · refine ⟨0, by omega, ?_⟩
        simp [eNew, eArgs, eIf, Cz.tOr, tE, e2, eVar, eC, ltD, bOf, h1, hp, intOp, h2, eCall, f1, absD, show (3 : Nat) ≤ sz by decide]
  obtain ⟨a, ha, hlast⟩ := hlast
  refine ⟨L ++ [some (.lst [.int a, .int b, .int 0])], ?_, ⟨a, b, 0, by simp, ha, hb0.1, hb0.2⟩, by simp⟩
  unfold Bw at e
  have hit : iV (eSl (eVar 0) pNone (pE (eC (.int 9)))) [some (.scr ns), some (.int lap), some (.int (4111171 + 5231 * lap)), none, none] L = .ok ⟨(cut ns none (some 9)).map .int, none⟩ L := by
    simp [iV, eSl, eVar, pNone, pE, eC, pInt, slD, deref, wkOf]
  have hb4 : (Cz.e2 modD (eCall (f1 intF) [(Cz.e2 addD (Cz.e2 addD (Cz.e2 mulD (eVar 2) (eC (.int 61))) (Cz.e2 mulD (Cz.e2 modD (eCall (f1 intF) [(eVar 4)]) (eC (.int 2147483549))) (eC (.int 16007)))) (eC (.int 17)))]) (eC (.int 2147483629))) [some (.scr ns), some (.int lap), some (.int st), y3, some (.int own)] L = .ok (.int b) L := by
    simp [e2, eVar, eC, eCall, eArgs, f1, intF, add_int, q1, q2, q4, q5, hb]
  show (if 2 = 2 then runD 5 m__law_well [.scr ns, .int lap] L else .bad) = _
  rw [if_pos rfl]
  unfold runD m__law_well
  show ((sSeq (sAsg (.nm 2) (Cz.e2 addD (eC (.int 4111171)) (Cz.e2 mulD (eC (.int 5231)) (eVar 1)))) _ [some (.scr ns), some (.int lap), none, none, none] L).bind _) = _
  have h1 : sAsg (.nm 2) (Cz.e2 addD (eC (.int 4111171)) (Cz.e2 mulD (eC (.int 5231)) (eVar 1))) [some (.scr ns), some (.int lap), none, none, none] L = .ok (.nx, [some (.scr ns), some (.int lap), some (.int (4111171 + 5231 * lap)), none, none]) L := by
    simp [sAsg, e2, eC, eVar, q0, add_int, put_nm]
  unfold sSeq
  rw [h1]
  simp only [bind_ok]
  unfold sFor
  rw [hit]
  simp only [bind_ok]
  rw [e]
  simp only [bind_ok]
  unfold sAsg
  rw [hown]
  simp only [bind_ok, put_nm, List.set_cons_succ, List.set_cons_zero]
  rw [hb4]
  simp only [bind_ok, put_nm, List.set_cons_succ, List.set_cons_zero]
  unfold sRet
  rw [hlast]
  rfl
end K01
set_option linter.all false
set_option autoImplicit false
set_option maxRecDepth 100000
set_option maxHeartbeats 1000000
namespace K01
open PySem L2 Cz
def vals : List D := [.non, .bl true, .bl false, .int 0, .int (-1), .int 7, .int (10 ^ 50), .str "", .str "ann", .str " ", .tup [], .tup [.int 1, .tup [.str "a"]], .lst [], .dct [] [], .lst [.str "x"], .dct [.inr "a"] [.int 1], .tup [.non, .bl true]]
theorem of_ok {L : LH} {i : Nat} (h : Wl L i) (vs : List D) (h0 : 0 < vs.length) (h1 : vs.length < 1000) : ∃ v L', F__law_of [.ref i, .tup vs] L = .ok v L' ∧ v ∈ vs ∧ Wl L' i ∧ L'.length = L.length := by
  obtain ⟨d, L', e, d0, d1, hw, hl⟩ := draw_ok (n := (vs.length : Int)) h (by omega) (by omega)
  obtain ⟨j, rfl⟩ : ∃ j : Nat, d = (j : Int) := ⟨d.toNat, by omega⟩
  have hj : j < vs.length := by omega
  refine ⟨vs[j], L', ?_, List.getElem_mem hj, hw, hl⟩
  simp [F__law_of, runP, runD, m__law_of, sRet, e2, eVar, eCall, eArgs, f1, lenD, deref, e, ixD, atI_nat hj]
theorem value_ok {L : LH} {i : Nat} (h : Wl L i) : ∃ v L', F__law_value [.ref i] L = .ok v L' ∧ v ∈ vals ∧ Wl L' i ∧ L'.length = L.length := by
  obtain ⟨v, L', e, hv, hw, hl⟩ := of_ok h vals (by decide) (by decide)
  refine ⟨v, L', ?_, hv, hw, hl⟩
  have hB : ∀ r, m__law_value [some (.ref i), none] L = .ok r L' → F__law_value [.ref i] L = (match r with | (.nx, _) => .ok .non L' | (.rt d, _) => .ok d L' | _ => .bad) := fun r h => by
    show ((m__law_value [some (.ref i), none] L).bind _) = _
    rw [h]
    rfl
  rw [hB (.rt v, [some (.ref i), some (.tup (vals.take 16))])]
  unfold m__law_value
  have hA : sAsg (.nm 1) (eTup [(eC .non), (eC (.bl true)), (eC (.bl false)), (eC (.int 0)), (e1 negD (eC (.int 1))), (eC (.int 7)), (Cz.e2 powD (eC (.int 10)) (eC (.int 50))), (eC (.str "")), (eC (.str "ann")), (eC (.str " ")), (eTup []), (eTup [(eC (.int 1)), (eTup [(eC (.str "a"))])]), (eLst []), eD0, (eLst [(eC (.str "x"))]), (eDis [((eC (.str "a")), (eC (.int 1)))])]) [some (.ref i), none] L = .ok (.nx, [some (.ref i), some (.tup (vals.take 16))]) L := by kernel_rfl
  have hC : eArgs [(eVar 0), (Cz.e2 addD (eVar 1) (eTup [(eTup [(eC .non), (eC (.bl true))])]))] [some (.ref i), some (.tup (vals.take 16))] L = .ok [.ref i, .tup vals] L := by kernel_rfl
  unfold sSeq
  rw [hA]
  simp only [bind_ok]
  unfold sRet
  show (((eArgs [(eVar 0), (Cz.e2 addD (eVar 1) (eTup [(eTup [(eC .non), (eC (.bl true))])]))] [some (.ref i), some (.tup (vals.take 16))] L).bind F__law_of).bind _) = _
  rw [hC]
  simp only [bind_ok]
  rw [e]
  rfl
theorem is_ok {v : D} (h : v ∈ vals) (L : LH) : F__law_is [v, v] L = .ok (.bl true) L := by
  simp only [vals, List.mem_cons, List.not_mem_nil, or_false] at h
  rcases h with rfl | rfl | rfl | rfl | rfl | rfl | rfl | rfl | rfl | rfl | rfl | rfl | rfl | rfl | rfl | rfl | rfl <;> kernel_rfl
noncomputable def A4 : Sm := (sAsg (.nm 4) (eCall F__law_value [(eVar 0)]))
noncomputable def A5 : Sm := (sAsg (.nm 5) (eCall F__law_made [(eVar 1), (eVar 4), (eVar 3)]))
noncomputable def A6 : Sm := (sAsg (.nm 6) (eIf (tE (e2 inD (eVar 1) (eCall F__law_given []))) (e1 (exF exC exF_ "given") (eVar 5)) (eC .non)))
noncomputable def K2 : Sm := (sIf (tE (e2 inD (eVar 1) (eTup [(eC (.str "InvalidProgram")), (eC (.str "NotAccepted"))]))) (sAsg (.nm 6) (e1 (exF exC exF_ "where") (eVar 5))) (sIf (tE (e2 niD (eVar 1) (eCall F__law_given []))) (sAsg (.nm 6) (e1 (exF exC exF_ "index") (eVar 5))) sNil))
noncomputable def IFR : Sm := (sIf (Cz.tOr (Cz.tNot (tE (eCall F__law_is [(eVar 6), (eVar 4)]))) (Cz.tNot (tE (eCall F__law_is_own [(eVar 5), (eVar 1)])))) (sRet (eC (.bl false))) sNil)
noncomputable def IB : Sm := sSeq A4 (sSeq A5 (sSeq A6 (sSeq K2 IFR)))
noncomputable def OB : Sm := sFor (iV (eTup [(eC (.bl false)), (eC (.bl true))])) (.nm 3) IB
noncomputable def REST : Sm := (sSeq (sAsg (.nm 2) (eLst [(eCall F__law_is_own [(eC (.exn0 "Unjoined")), (eC (.str "Unjoined"))]), (eCall F__law_is_own [(eC (.exn0 "Ended")), (eC (.str "Ended"))])])) (sSeq (sAsg (.nm 2) (e2 addD (eVar 2) (eLst [(eCall F__law_is_own [(eC (.exn0 "NothingDone")), (eC (.str "NothingDone"))])]))) (sRet (e2 eqD (eVar 2) (e2 mulD (eLst [(eC (.bl true))]) (eC (.int 3)))))))
structure WordOk (w f : Str) : Prop where
  made : ∀ (v : D) (L : LH) (b : Bool), F__law_made [.str w, v, .bl b] L = .ok (.exn w f v) L
  own : ∀ (v : D) (L : LH), F__law_is_own [.exn w f v, .str w] L = .ok (.bl true) L
  kept : ∀ (v : D) (L : LH) (i : Nat) (x2 : Option D) (b : Bool) (x6 : Option D), ∃ k, A6 [some (.ref i), some (.str w), x2, some (.bl b), some v, some (.exn w f v), x6] L = .ok (.nx, [some (.ref i), some (.str w), x2, some (.bl b), some v, some (.exn w f v), some k]) L ∧
    K2 [some (.ref i), some (.str w), x2, some (.bl b), some v, some (.exn w f v), some k] L = .ok (.nx, [some (.ref i), some (.str w), x2, some (.bl b), some v, some (.exn w f v), some v]) L
theorem wo_InvalidNumber : WordOk "InvalidNumber" "given" := ⟨fun v L b => by cases b <;> kernel_rfl, fun v L => by kernel_rfl, fun v L i x2 b x6 => ⟨v, by kernel_rfl, by kernel_rfl⟩⟩
theorem wo_UnknownDef : WordOk "UnknownDef" "given" := ⟨fun v L b => by cases b <;> kernel_rfl, fun v L => by kernel_rfl, fun v L i x2 b x6 => ⟨v, by kernel_rfl, by kernel_rfl⟩⟩
theorem wo_InvalidMachine : WordOk "InvalidMachine" "given" := ⟨fun v L b => by cases b <;> kernel_rfl, fun v L => by kernel_rfl, fun v L i x2 b x6 => ⟨v, by kernel_rfl, by kernel_rfl⟩⟩
theorem wo_InvalidImage : WordOk "InvalidImage" "given" := ⟨fun v L b => by cases b <;> kernel_rfl, fun v L => by kernel_rfl, fun v L i x2 b x6 => ⟨v, by kernel_rfl, by kernel_rfl⟩⟩
theorem wo_InvalidState : WordOk "InvalidState" "given" := ⟨fun v L b => by cases b <;> kernel_rfl, fun v L => by kernel_rfl, fun v L i x2 b x6 => ⟨v, by kernel_rfl, by kernel_rfl⟩⟩
theorem wo_InvalidUnit : WordOk "InvalidUnit" "given" := ⟨fun v L b => by cases b <;> kernel_rfl, fun v L => by kernel_rfl, fun v L i x2 b x6 => ⟨v, by kernel_rfl, by kernel_rfl⟩⟩
theorem wo_InvalidSide : WordOk "InvalidSide" "given" := ⟨fun v L b => by cases b <;> kernel_rfl, fun v L => by kernel_rfl, fun v L i x2 b x6 => ⟨v, by kernel_rfl, by kernel_rfl⟩⟩
theorem wo_InvalidKinds : WordOk "InvalidKinds" "given" := ⟨fun v L b => by cases b <;> kernel_rfl, fun v L => by kernel_rfl, fun v L i x2 b x6 => ⟨v, by kernel_rfl, by kernel_rfl⟩⟩
theorem wo_InvalidLine : WordOk "InvalidLine" "given" := ⟨fun v L b => by cases b <;> kernel_rfl, fun v L => by kernel_rfl, fun v L i x2 b x6 => ⟨v, by kernel_rfl, by kernel_rfl⟩⟩
theorem wo_NotADesk : WordOk "NotADesk" "given" := ⟨fun v L b => by cases b <;> kernel_rfl, fun v L => by kernel_rfl, fun v L i x2 b x6 => ⟨v, by kernel_rfl, by kernel_rfl⟩⟩
theorem wo_InvalidText : WordOk "InvalidText" "index" := ⟨fun v L b => by cases b <;> kernel_rfl, fun v L => by kernel_rfl, fun v L i x2 b x6 => ⟨.non, by kernel_rfl, by kernel_rfl⟩⟩
theorem wo_InvalidInputs : WordOk "InvalidInputs" "index" := ⟨fun v L b => by cases b <;> kernel_rfl, fun v L => by kernel_rfl, fun v L i x2 b x6 => ⟨.non, by kernel_rfl, by kernel_rfl⟩⟩
theorem wo_InvalidItinerary : WordOk "InvalidItinerary" "index" := ⟨fun v L b => by cases b <;> kernel_rfl, fun v L => by kernel_rfl, fun v L i x2 b x6 => ⟨.non, by kernel_rfl, by kernel_rfl⟩⟩
theorem wo_InvalidUnits : WordOk "InvalidUnits" "index" := ⟨fun v L b => by cases b <;> kernel_rfl, fun v L => by kernel_rfl, fun v L i x2 b x6 => ⟨.non, by kernel_rfl, by kernel_rfl⟩⟩
theorem wo_InvalidCommands : WordOk "InvalidCommands" "index" := ⟨fun v L b => by cases b <;> kernel_rfl, fun v L => by kernel_rfl, fun v L i x2 b x6 => ⟨.non, by kernel_rfl, by kernel_rfl⟩⟩
theorem wo_InvalidWords : WordOk "InvalidWords" "index" := ⟨fun v L b => by cases b <;> kernel_rfl, fun v L => by kernel_rfl, fun v L i x2 b x6 => ⟨.non, by kernel_rfl, by kernel_rfl⟩⟩
theorem wo_InvalidProgram : WordOk "InvalidProgram" "where" := ⟨fun v L b => by cases b <;> kernel_rfl, fun v L => by kernel_rfl, fun v L i x2 b x6 => ⟨.non, by kernel_rfl, by kernel_rfl⟩⟩
theorem wo_NotAccepted : WordOk "NotAccepted" "where" := ⟨fun v L b => by cases b <;> kernel_rfl, fun v L => by kernel_rfl, fun v L i x2 b x6 => ⟨.non, by kernel_rfl, by kernel_rfl⟩⟩
def words : List Str := ["InvalidNumber", "UnknownDef", "InvalidMachine", "InvalidImage", "InvalidState", "InvalidUnit", "InvalidSide", "InvalidKinds", "InvalidLine", "NotADesk", "InvalidText", "InvalidInputs", "InvalidItinerary", "InvalidUnits", "InvalidCommands", "InvalidWords", "InvalidProgram", "NotAccepted"]
theorem words_ok : ∀ w ∈ words, ∃ f, WordOk w f := by
  intro w h
  simp only [words, List.mem_cons, List.not_mem_nil, or_false] at h
  rcases h with rfl | rfl | rfl | rfl | rfl | rfl | rfl | rfl | rfl | rfl | rfl | rfl | rfl | rfl | rfl | rfl | rfl | rfl
  · exact ⟨_, wo_InvalidNumber⟩
  · exact ⟨_, wo_UnknownDef⟩
  · exact ⟨_, wo_InvalidMachine⟩
  · exact ⟨_, wo_InvalidImage⟩
  · exact ⟨_, wo_InvalidState⟩
  · exact ⟨_, wo_InvalidUnit⟩
  · exact ⟨_, wo_InvalidSide⟩
  · exact ⟨_, wo_InvalidKinds⟩
  · exact ⟨_, wo_InvalidLine⟩
  · exact ⟨_, wo_NotADesk⟩
  · exact ⟨_, wo_InvalidText⟩
  · exact ⟨_, wo_InvalidInputs⟩
  · exact ⟨_, wo_InvalidItinerary⟩
  · exact ⟨_, wo_InvalidUnits⟩
  · exact ⟨_, wo_InvalidCommands⟩
  · exact ⟨_, wo_InvalidWords⟩
  · exact ⟨_, wo_InvalidProgram⟩
  · exact ⟨_, wo_NotAccepted⟩
theorem ib_ok {w f : Str} (W : WordOk w f) {L : LH} {i : Nat} (h : Wl L i) (x2 x4 x5 x6 : Option D) (b : Bool) : ∃ L' y4 y5 y6, IB [some (.ref i), some (.str w), x2, some (.bl b), x4, x5, x6] L = .ok (.nx, [some (.ref i), some (.str w), x2, some (.bl b), y4, y5, y6]) L' ∧ Wl L' i ∧ L'.length = L.length := by
  obtain ⟨v, L', e, hv, hw, hl⟩ := value_ok h
  obtain ⟨k, k1, k2⟩ := W.kept v L' i x2 b x6
  refine ⟨L', some v, some (.exn w f v), some v, ?_, hw, hl⟩
  have a4 : A4 [some (.ref i), some (.str w), x2, some (.bl b), x4, x5, x6] L = .ok (.nx, [some (.ref i), some (.str w), x2, some (.bl b), some v, x5, x6]) L' := by
    simp [A4, sAsg, eCall, eArgs, eVar, e, put_nm]
  have a5 : A5 [some (.ref i), some (.str w), x2, some (.bl b), some v, x5, x6] L' = .ok (.nx, [some (.ref i), some (.str w), x2, some (.bl b), some v, some (.exn w f v), x6]) L' := by
    simp [A5, sAsg, eCall, eArgs, eVar, W.made, put_nm]
  have a7 : IFR [some (.ref i), some (.str w), x2, some (.bl b), some v, some (.exn w f v), some v] L' = .ok (.nx, [some (.ref i), some (.str w), x2, some (.bl b), some v, some (.exn w f v), some v]) L' := by
    simp [IFR, sIf, Cz.tOr, Cz.tNot, tE, eCall, eArgs, eVar, is_ok hv, W.own, bOf, sNil]
  unfold IB sSeq
  rw [a4]; simp only [bind_ok]
  rw [a5]; simp only [bind_ok]
  rw [k1]; simp only [bind_ok]
  rw [k2]; simp only [bind_ok]
  exact a7
theorem ob_ok {w f : Str} (W : WordOk w f) {L : LH} {i : Nat} (h : Wl L i) (x2 x3 x4 x5 x6 : Option D) : ∃ L' y3 y4 y5 y6, OB [some (.ref i), some (.str w), x2, x3, x4, x5, x6] L = .ok (.nx, [some (.ref i), some (.str w), x2, y3, y4, y5, y6]) L' ∧ Wl L' i ∧ L'.length = L.length := by
  obtain ⟨L1, y4, y5, y6, e1, h1, l1⟩ := ib_ok W h x2 x4 x5 x6 false
  obtain ⟨L2', z4, z5, z6, e2', h2, l2⟩ := ib_ok W h1 x2 y4 y5 y6 true
  refine ⟨L2', some (.bl true), z4, z5, z6, ?_, h2, l2.trans l1⟩
  have hit : iV (eTup [(eC (.bl false)), (eC (.bl true))]) [some (.ref i), some (.str w), x2, x3, x4, x5, x6] L = .ok ⟨[.bl false, .bl true], none⟩ L := by kernel_rfl
  unfold OB sFor
  rw [hit]
  simp only [bind_ok]
  rw [go_cons, put_nm]
  simp only [bind_ok, List.set_cons_succ, List.set_cons_zero]
  rw [e1]
  simp only [bind_ok]
  rw [go_cons, put_nm]
  simp only [bind_ok, List.set_cons_succ, List.set_cons_zero]
  rw [e2']
  simp only [bind_ok]
  exact go_nil
theorem for_ok : ∀ (ws : List Str), (∀ w ∈ ws, ∃ f, WordOk w f) → ∀ {L : LH} {i : Nat}, Wl L i → ∀ (x1 x2 x3 x4 x5 x6 : Option D), ∃ L' y1 y3 y4 y5 y6, forGo none (.nm 1) OB (ws.map D.str) [some (.ref i), x1, x2, x3, x4, x5, x6] L = .ok (.nx, [some (.ref i), y1, x2, y3, y4, y5, y6]) L' ∧ L'.length = L.length
  | [], _, L, i, h, x1, x2, x3, x4, x5, x6 => ⟨L, x1, x3, x4, x5, x6, go_nil, rfl⟩
  | w :: ws, H, L, i, h, x1, x2, x3, x4, x5, x6 => by
    obtain ⟨f, W⟩ := H w (List.mem_cons_self ..)
    obtain ⟨L1, y3, y4, y5, y6, e1, h1, l1⟩ := ob_ok W h x2 x3 x4 x5 x6
    obtain ⟨L2', z1, z3, z4, z5, z6, e2', l2⟩ := for_ok ws (fun w hw => H w (List.mem_cons_of_mem _ hw)) h1 (some (.str w)) x2 y3 y4 y5 y6
    refine ⟨L2', z1, z3, z4, z5, z6, ?_, l2.trans l1⟩
    rw [List.map_cons, go_cons, put_nm]
    simp only [bind_ok, List.set_cons_succ, List.set_cons_zero]
    rw [e1]
    exact e2'
theorem right_ok {L : LH} {i : Nat} (h : Wl L i) : ∃ L', F__law_right [.ref i] L = .ok (.bl true) L' := by
  obtain ⟨L', y1, y3, y4, y5, y6, e, hl⟩ := for_ok words words_ok h none none none none none none
  refine ⟨L', ?_⟩
  have key : F__law_right [.ref i] L = ((forGo none (.nm 1) OB (words.map D.str) [some (.ref i), none, none, none, none, none, none] L).bind fun r L => match r with
    | (.nx, ρ) => REST ρ L
    | r => .ok r L).bind fun r L => match r with
      | (.nx, _) => .ok .non L
      | (.rt d, _) => .ok d L
      | _ => .bad := by kernel_rfl
  rw [key, e]
  simp only [bind_ok]
  have hr : REST [some (.ref i), y1, none, y3, y4, y5, y6] L' = .ok (.rt (.bl true), [some (.ref i), y1, some (.lst [.bl true, .bl true, .bl true]), y3, y4, y5, y6]) L' := by kernel_rfl
  rw [hr]
  rfl
theorem lc_nil {t : Tg} {c : Te} {e : Rho → LH → Res (List D)} {ρ : Rho} {L : LH} : lcGo none t c e ρ [] L = .ok [] L := by unfold lcGo; exact if_pos trivial
theorem lc_cons {t : Tg} {c : Te} {e : Rho → LH → Res (List D)} {ρ : Rho} {d : D} {ds : List D} {L : LH} : lcGo none t c e ρ (d :: ds) L = (t.put d ρ L).bind fun ρ' L => (c ρ' L).bind fun b L => if b = true then (e ρ' L).bind fun xs L => (lcGo none t c e ρ ds L).bind fun ys L => .ok (xs ++ ys) L
      else lcGo none t c e ρ ds L := by
  rw [lcGo]; exact if_pos trivial
noncomputable def EL : Ex := eCall F__law_right [eCall F__law_well [eVar 0, eVar 1]]
theorem el_ok (ns : List Int) (j : Nat) (hj : j < 100) (L : LH) : ∃ L', EL [some (.scr ns), some (.int j)] L = .ok (.bl true) L' := by
  obtain ⟨L1, e, hw, _⟩ := well_ok ns j L hj
  obtain ⟨L', e'⟩ := right_ok hw
  exact ⟨L', by simp [EL, eCall, eArgs, eVar, e, e']⟩
theorem lc_ok (ns : List Int) : ∀ (js : List Nat), (∀ j ∈ js, j < 100) → ∀ L : LH, ∃ L', lcGo none (.nm 1) (fun _ L => .ok true L) (lcs [] EL) [some (.scr ns), none] (js.map fun (j : Nat) => D.int (0 + (j : Int))) L = .ok (js.map fun _ => .bl true) L'
  | [], _, L => ⟨L, lc_nil⟩
  | j :: js, h, L => by
    obtain ⟨L1, e⟩ := el_ok ns j (h j (List.mem_cons_self ..)) L
    obtain ⟨L2', e'⟩ := lc_ok ns js (fun j hj => h j (List.mem_cons_of_mem _ hj)) L1
    refine ⟨L2', ?_⟩
    rw [List.map_cons, lc_cons, put_nm]
    simp only [bind_ok, List.set_cons_succ, List.set_cons_zero, Int.zero_add, if_true, lcs]
    rw [e]
    simp only [bind_ok]
    simp only [lcs, Int.zero_add] at e'
    rw [e']
    rfl
theorem bls_ok : ∀ js : List Nat, blsD (js.map fun _ => .bl true) = some (js.map fun _ => true)
  | [] => rfl
  | j :: js => by simp only [List.map_cons, blsD, bls_ok js, Option.map_some]
theorem law_ok (ns : List Int) (hn : ns.length ≤ 63) : ∃ L', F_law [.scr ns] [] = .ok (.bl true) L' := by
  have hc : ∃ m : Nat, m < 100 ∧ iR1 (eCall (f2 maxD) [(eC (.int 1)), (eCall (f2 minD) [(eCall (f1 lenD) [(eVar 0)]), (eC (.int 2))])]) [some (.scr ns), none] [] = .ok ⟨rgD 0 m, none⟩ [] := by
    by_cases h1 : ns.length ≤ 1
    · refine ⟨1, by omega, ?_⟩
      have q1 : ¬ (2 : Int) < (ns.length : Int) := by omega
      have q2 : ¬ (1 : Int) < (ns.length : Int) := by omega
      simp [iR1, eCall, eArgs, eC, eVar, f1, f2, lenD, deref, minD, maxD, q1, q2, rg1]
    · refine ⟨2, by omega, ?_⟩
      by_cases h2 : (2 : Int) < (ns.length : Int)
      · simp [iR1, eCall, eArgs, eC, eVar, f1, f2, lenD, deref, minD, maxD, h2, rg1]
      · have h3 : (ns.length : Int) = 2 := by omega
        simp [iR1, eCall, eArgs, eC, eVar, f1, f2, lenD, deref, minD, maxD, h3, rg1]
  obtain ⟨m, hm, hit⟩ := hc
  obtain ⟨L', e⟩ := lc_ok ns (List.range m) (fun j hj => by have := List.mem_range.mp hj; omega) []
  refine ⟨L', ?_⟩
  have el : eLc [1] ⟨(iR1 (eCall (f2 maxD) [(eC (.int 1)), (eCall (f2 minD) [(eCall (f1 lenD) [(eVar 0)]), (eC (.int 2))])])), (.nm 1), (fun _ L => .ok true L)⟩ [] EL [some (.scr ns), none] [] = .ok (.lst ((List.range m).map fun _ => .bl true)) L' := by
    unfold eLc
    simp only [hit, bind_ok, wipeR, List.set_cons_succ, List.set_cons_zero, rgD]
    rw [e]
    simp only [bind_ok]
    rw [if_pos (by rw [List.length_map, List.length_range]; show m ≤ 16777216; omega)]
  show (if 1 = 1 then runD 2 m_law [.scr ns] [] else .bad) = _
  rw [if_pos rfl]
  have hE : eArgs [eLc [1] ⟨(iR1 (eCall (f2 maxD) [(eC (.int 1)), (eCall (f2 minD) [(eCall (f1 lenD) [(eVar 0)]), (eC (.int 2))])])), (.nm 1), (fun _ L => .ok true L)⟩ [] EL] [some (.scr ns), none] [] = .ok [.lst ((List.range m).map fun _ => .bl true)] L' := by
    simp only [eArgs, el, bind_ok]
  show ((((eArgs [eLc [1] ⟨(iR1 (eCall (f2 maxD) [(eC (.int 1)), (eCall (f2 minD) [(eCall (f1 lenD) [(eVar 0)]), (eC (.int 2))])])), (.nm 1), (fun _ L => .ok true L)⟩ [] EL] [some (.scr ns), none] []).bind (f1 allD)).bind _).bind _) = _
  rw [hE]
  simp only [bind_ok, f1, allD, deref, bls_ok]
  simp
end K01
set_option Elab.async false
set_option linter.all false
set_option autoImplicit false
set_option maxRecDepth 100000
set_option maxHeartbeats 0
namespace K01
open PySem PySem.Spec PyProof.Rows L2 Cz
theorem run (w : World) : HandSHeadRun.RunEq R (PySem.W.view R.prog [38]) hk ob 8000 loose w := by
  intro os
  kernel_rfl
end K01
open PySem PySem.W PySem.Calls PyProof.Rows
theorem PySem.Challenge.cw_carryruns_k01_errors_each_of_its_own_holds : PySem.Challenge.rw_carryruns_k01_errors_each_of_its_own.Holds := by
  w_on; o_law
  refine HandSHeadRun.head_any (r := OpenLaw.row PySem.Challenge.rw_carryruns_k01_errors_each_of_its_own) (q := view (OpenLaw.row PySem.Challenge.rw_carryruns_k01_errors_each_of_its_own).prog [38]) (H := K01.hk) (ob := K01.ob) (M := 8000) (loose := K01.loose) (d := HandSHeadRun.topDef (OpenLaw.row PySem.Challenge.rw_carryruns_k01_errors_each_of_its_own).prog 38) (kwd := []) K01.ob_eq
    (by kernel_rfl) (fun s => by kernel_rfl) K01.run (by kernel_rfl) (by kernel_rfl) (by kernel_rfl) (by rfl) (by first | assumption | decide +kernel) (by decide +kernel) ⟨rfl, rfl, rfl, rfl, rfl, by decide +kernel⟩ ?hw ?hc
  case hw => w_witness2
  case hc =>
    refine Cz.walkD (l := PySem.Challenge.rw_carryruns_k01_errors_each_of_its_own) (n := 63) (k := 6) (x := "script") (Fl := K01.F_law) rfl (by decide) (by kernel_rfl) ⟨rfl, by decide, by decide⟩ ?F (fun ns h _ => K01.law_ok ns h)
    intro w mg fa h Y G hmg0
    obtain ⟨K, KX, c⟩ := Y
    have hmg : mg ("law" : PySem.Str) = some (.ref fa) := by
      have e : (HandSHeadRun.topDef (OpenLaw.row PySem.Challenge.rw_carryruns_k01_errors_each_of_its_own).prog 38).name = ("law" : PySem.Str) := by kernel_rfl
      rw [← e]
      exact hmg0
    obtain ⟨fd, F, gm⟩ := K01.u_law KX G c
    have e := hmg.symm.trans gm
    cases e
    have b := L2.FunD.bindsA (ps := ["script"]) F fun _ _ _ _ _ _ us hl => match us, hl with | [_], _ => rfl
    exact ⟨K, fd, KX, fun s u => b s [u] rfl, fun base _ _ => (Cz.fnG_body F K01.sc_law fun cdv A outer s H hr hg => K01.b_law KX G c hr hg).mono (by decide)⟩
