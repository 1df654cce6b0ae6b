import PyProof.Rows.All
import Wide.All
import OpenK.AllK
import Wide.FinOn
import HandS.ForMost
import HandS.ForExc
import HandS.ExcInit
import HandS.Lambda
import HandS.TupAny
import HandS.Deep
import HandS.Style
import HandS.Steps
import HandS.Text
import HandS.Dict
import HandS.IsInst
import PyProof.EqAt
import PyProof.NeKinds
import HandS.TupLen
import HandS.WordsDict
import HandS.Star
import HandS.Comp
import HandS.ExcIs
import HandS.ExcField
import KE.KExcIs
import HandS.CallSlots
import HandS.Property
import HandS.Defaults
import HandS.Zip
import HandS.Iter
import HandS.NestedK
import KE.KExcInit
import KE.KExcSuper
import KE.KSuper
import HandS.ExcSuper
import HandS.FStr
import HandS.FStrTup
import PyProof.ReprHeadsEmpty
import PyProof.ReprLen
import PyProof.FactsAll.list_1
import PyProof.FactsAll.list_2
import PyProof.FactsAll.list_3
import PyProof.FString2
import HandS.DictComp
import PyProof.DictDisplay
import HandS.ClsMeth
import KE.KTryMore
import HandS.HotCalls
import HandS.Head0
import HandS.Head1
import HandS.Head2
import HandS.HeadEnd
import HandS.HeadHook1
import HandS.HeadHook2
import HandS.HeadHook4
import HandS.MakeKwOnly
import HandS.EndOwn
import PySem.Challenge.RW_coinroads_k59_limits_of_yards
set_option Elab.async false
set_option linter.all false
set_option maxRecDepth 100000
/-! A small language of statements and expressions over a small heap: values, heap, results, evaluator. No model in sight. -/
namespace MP
/-- a value; ref: a place of the small heap; fn, cl: a def, a class by its number -/
inductive Va where
  | non | bl (b : Bool) | int (i : Int) | str (x : List Nat) | ref (a : Nat) | fn (f : Nat) | cl (c : Nat)
  /-- a text that is drawn: its number -/
  | tok (k : Nat)
  deriving DecidableEq
/-- an object; frz: one that is read only while it is so -/
inductive Ob where
  | lst (xs : List Va) | tup (xs : List Va) | dct (kvs : List (Va × Va)) | dtu (kvs : List (List Va × Va)) | ins (c : Nat) (fs : List (Nat × Va)) | frz (o : Ob)
  /-- an own exception of class c that lies at a, its dict at d; the dict that lies at a -/
  | exo (a c d : Nat) | exd (a : Nat) (fs : List (Nat × Va))

/-! ### the heap: a tree by the places' binary digits -/
inductive Tr where
  | nil | nd (o : Option Ob) (l r : Tr)
def Tr.get : Tr → Nat → Option Ob
  | .nil, _ => none
  | .nd o l r, k => match k with
    | 0 => o
    | j + 1 => match Nat.beq (j % 2) 0 with
      | true => l.get (j / 2)
      | false => r.get (j / 2)
/-- fuel: any number above k -/
def Tr.put (o : Option Ob) : Nat → Tr → Nat → Tr
  | 0, t, _ => t
  | n + 1, t, k => match k with
    | 0 => match t with
      | .nil => .nd o .nil .nil
      | .nd _ l r => .nd o l r
    | j + 1 => match t with
      | .nil => match Nat.beq (j % 2) 0 with
        | true => .nd none (Tr.put o n .nil (j / 2)) .nil
        | false => .nd none .nil (Tr.put o n .nil (j / 2))
      | .nd p l r => match Nat.beq (j % 2) 0 with
        | true => .nd p (Tr.put o n l (j / 2)) r
        | false => .nd p l (Tr.put o n r (j / 2))
structure Hv where
  t : Tr
  n : Nat
def Hv.get (h : Hv) (a : Nat) : Option Ob := h.t.get a
def Hv.set (h : Hv) (a : Nat) (o : Ob) : Hv := ⟨h.t.put (some o) (a + 1) a, h.n⟩
def Hv.new (h : Hv) (o : Ob) : Hv := ⟨h.t.put (some o) (h.n + 1) h.n, h.n + 1⟩
/-- read through a lock -/
def unf : Option Ob → Option Ob
  | some (.frz o) => some o
  | x => x
def Hv.rd (h : Hv) (a : Nat) : Option Ob := unf (h.get a)

theorem Tr.get_nil (k : Nat) : Tr.nil.get k = none := rfl
theorem Tr.get_put (o : Option Ob) : ∀ (n : Nat) (t : Tr) (k j : Nat), k < n → (t.put o n k).get j = if j = k then o else t.get j
  | 0, _, _, _, h => absurd h (Nat.not_lt_zero _)
  | n + 1, t, 0, j, _ => by
    cases t with
    | nil =>
      cases j with
      | zero => rfl
      | succ i =>
        rw [if_neg (Nat.succ_ne_zero i)]
        show (match Nat.beq (i % 2) 0 with | true => Tr.nil.get (i / 2) | false => Tr.nil.get (i / 2)) = none
        cases Nat.beq (i % 2) 0 <;> rfl
    | nd p l r =>
      cases j with
      | zero => rfl
      | succ i =>
        rw [if_neg (Nat.succ_ne_zero i)]
        rfl
  | n + 1, t, k + 1, j, h => by
    have hk : k / 2 < n := by omega
    cases t with
    | nil =>
      show (match Nat.beq (k % 2) 0 with | true => Tr.nd none (Tr.put o n .nil (k / 2)) .nil | false => Tr.nd none .nil (Tr.put o n .nil (k / 2))).get j = _
      cases e : Nat.beq (k % 2) 0 with
      | true =>
        have e0 : k % 2 = 0 := Nat.eq_of_beq_eq_true e
        cases j with
        | zero =>
          rw [if_neg (by omega)]
          rfl
        | succ i =>
          show (match Nat.beq (i % 2) 0 with | true => (Tr.put o n .nil (k / 2)).get (i / 2) | false => Tr.nil.get (i / 2)) = _
          cases f : Nat.beq (i % 2) 0 with
          | true =>
            have f0 : i % 2 = 0 := Nat.eq_of_beq_eq_true f
            show (Tr.put o n .nil (k / 2)).get (i / 2) = _
            rw [Tr.get_put o n .nil (k / 2) (i / 2) hk]
            by_cases q : i / 2 = k / 2
            · rw [if_pos q, if_pos (by omega)]
            · rw [if_neg q, if_neg (by omega)]
              rfl
          | false =>
            have f0 : i % 2 ≠ 0 := Nat.ne_of_beq_eq_false f
            rw [if_neg (by omega)]
            rfl
      | false =>
        have e0 : k % 2 ≠ 0 := Nat.ne_of_beq_eq_false e
        cases j with
        | zero =>
          rw [if_neg (by omega)]
          rfl
        | succ i =>
          show (match Nat.beq (i % 2) 0 with | true => Tr.nil.get (i / 2) | false => (Tr.put o n .nil (k / 2)).get (i / 2)) = _
          cases f : Nat.beq (i % 2) 0 with
          | true =>
            have f0 : i % 2 = 0 := Nat.eq_of_beq_eq_true f
            rw [if_neg (by omega)]
            rfl
          | false =>
            have f0 : i % 2 ≠ 0 := Nat.ne_of_beq_eq_false f
            show (Tr.put o n .nil (k / 2)).get (i / 2) = _
            rw [Tr.get_put o n .nil (k / 2) (i / 2) hk]
            by_cases q : i / 2 = k / 2
            · rw [if_pos q, if_pos (by omega)]
            · rw [if_neg q, if_neg (by omega)]
              rfl
    | nd p l r =>
      show (match Nat.beq (k % 2) 0 with | true => Tr.nd p (Tr.put o n l (k / 2)) r | false => Tr.nd p l (Tr.put o n r (k / 2))).get j = _
      cases e : Nat.beq (k % 2) 0 with
      | true =>
        have e0 : k % 2 = 0 := Nat.eq_of_beq_eq_true e
        cases j with
        | zero =>
          rw [if_neg (by omega)]
          rfl
        | succ i =>
          show (match Nat.beq (i % 2) 0 with | true => (Tr.put o n l (k / 2)).get (i / 2) | false => r.get (i / 2)) = if i + 1 = k + 1 then o else (match Nat.beq (i % 2) 0 with | true => l.get (i / 2) | false => r.get (i / 2))
          cases f : Nat.beq (i % 2) 0 with
          | true =>
            have f0 : i % 2 = 0 := Nat.eq_of_beq_eq_true f
            show (Tr.put o n l (k / 2)).get (i / 2) = if i + 1 = k + 1 then o else l.get (i / 2)
            rw [Tr.get_put o n l (k / 2) (i / 2) hk]
            by_cases q : i / 2 = k / 2
            · rw [if_pos q, if_pos (by omega)]
            · rw [if_neg q, if_neg (by omega)]
          | false =>
            have f0 : i % 2 ≠ 0 := Nat.ne_of_beq_eq_false f
            rw [if_neg (by omega)]
      | false =>
        have e0 : k % 2 ≠ 0 := Nat.ne_of_beq_eq_false e
        cases j with
        | zero =>
          rw [if_neg (by omega)]
          rfl
        | succ i =>
          show (match Nat.beq (i % 2) 0 with | true => l.get (i / 2) | false => (Tr.put o n r (k / 2)).get (i / 2)) = if i + 1 = k + 1 then o else (match Nat.beq (i % 2) 0 with | true => l.get (i / 2) | false => r.get (i / 2))
          cases f : Nat.beq (i % 2) 0 with
          | true =>
            have f0 : i % 2 = 0 := Nat.eq_of_beq_eq_true f
            rw [if_neg (by omega)]
          | false =>
            have f0 : i % 2 ≠ 0 := Nat.ne_of_beq_eq_false f
            show (Tr.put o n r (k / 2)).get (i / 2) = if i + 1 = k + 1 then o else r.get (i / 2)
            rw [Tr.get_put o n r (k / 2) (i / 2) hk]
            by_cases q : i / 2 = k / 2
            · rw [if_pos q, if_pos (by omega)]
            · rw [if_neg q, if_neg (by omega)]
theorem Hv.get_set (h : Hv) (a b : Nat) (o : Ob) : (h.set a o).get b = if b = a then some o else h.get b := Tr.get_put _ _ _ _ _ (Nat.lt_succ_self _)
theorem Hv.get_new (h : Hv) (b : Nat) (o : Ob) : (h.new o).get b = if b = h.n then some o else h.get b := Tr.get_put _ _ _ _ _ (Nat.lt_succ_self _)

/-! ### results -/
/-- ok: a value and the heap behind; ex: an exception of a class with its fields; no: nothing is said -/
inductive Rs (α : Type) where
  | ok (a : α) (h : Hv) | ex (c : Nat) (fs : List (Nat × Va)) (h : Hv) | no
def Rs.bind {α β : Type} (r : Rs α) (k : α → Hv → Rs β) : Rs β := match r with
  | .ok a h => k a h
  | .ex c f h => .ex c f h
  | .no => .no
theorem Rs.bind_ok {α β : Type} {a : α} {h : Hv} {k : α → Hv → Rs β} : (Rs.ok a h).bind k = k a h := rfl
/-- what a def does: its number, its arguments, the heap -/
abbrev Orc := Nat → List Va → Hv → Rs Va
/-- a frame's slots -/
abbrev Fr := List (Option Va)
end MP
set_option linter.all false
set_option maxRecDepth 100000
/-! The small language and its evaluator. -/
namespace MP
inductive BO where
  | add | sub | mul | fdv | mod | pow
inductive CO where
  | eq | ne | lt | le | gt | ge | isin | notin
inductive TyC where
  | int | bool | str | list | tuple | cls (c : Nat)
  /-- ValueError, LookupError, IndexError -/
  | verr | lerr | ierr
/-- a value's kind -/
inductive TyV where
  | non | bl | int | str | lst | tup | dct | ins (c : Nat) | exc (c : Nat)
inductive Bf where
  | len | abs | max | min | int | str | sorted | list | tuple | sum | all | any | dict | repr
inductive Bm where
  | append | insert | pop | extend | index | get | items | join | split | clear | count
/-- a loop's target: a name; names in a tuple; names, then one for the rest -/
inductive LT where
  | one (i : Nat) | many (is : List Nat) | star (is : List Nat) (j : Nat)
/-- how a thing is walked: itself; range; enumerate; zip -/
inductive IK where
  | it | rng | enm | zip
inductive Ex where
  | cst (v : Va) | var (i : Nat)
  | bin (o : BO) (a b : Ex) | neg (a : Ex) | not (a : Ex) | and (a b : Ex) | or (a b : Ex)
  | cmp (o : CO) (a b : Ex) | isN (a : Ex) | notN (a : Ex) | chn (o p : CO) (a b c : Ex)
  | ite (c a b : Ex)
  /-- a test: its value's truth -/
  | val (a : Ex)
  /-- true: a star stands before it -/
  | lst (es : List (Bool × Ex)) | tup (es : List (Bool × Ex))
  | idx (a b : Ex) | slc (a : Ex) (lo hi : Option Ex) | rev (a : Ex)
  | fld (a : Ex) (f : Nat)
  /-- C(f = e), an own exception -/
  | mkk (c f : Nat) (e : Ex)
  | call (f : Nat) (es : List Ex) | calv (i : Nat) (es : List Ex) | met (a : Ex) (m : Nat) (es : List Ex) | mk (c : Nat) (es : List Ex)
  | blt (b : Bf) (es : List Ex) | bme (m : Bm) (a : Ex) (es : List Ex) | isi (a : Ex) (ts : List TyC)
  | dnw (t : Bool) | dlt (kvs : List (Ex × Ex)) | dst (a k v : Ex)
  | tbl (t : Nat) (op : Nat) (a b : Ex)
  | lc (e : Ex) (tg : LT) (k : IK) (it : List Ex) (ifs : List Ex) (ws : List Nat)
  | lc2 (e : Ex) (tg : LT) (k : IK) (it : List Ex) (ifs : List Ex) (tg1 : LT) (k1 : IK) (it1 : List Ex) (ifs1 : List Ex) (ws : List Nat)
  | dc (ke ve : Ex) (tg : LT) (k : IK) (it : List Ex) (ifs : List Ex) (ws : List Nat)
  | fst (ps : List Ex)
  /-- a lambda handed to the def that tells what it gives or raises -/
  | why (b : Ex)
  /-- with keywords: C(es, ks = ws), a.m(es, ks = ws) -/
  | mkw (c : Nat) (es : List Ex) (ks : List Nat) (ws : List Ex) | metw (a : Ex) (m : Nat) (es : List Ex) (ks : List Nat) (ws : List Ex)
  /-- len(a), a perhaps of an own class -/
  | lenI (a : Ex)
  /-- a.join(e), a.split(e) -/
  | join (a e : Ex) | split (a e : Ex)
  /-- e, the dict at a locked -/
  | lck (a e : Ex)
inductive Tg where
  | var (i : Nat) | fld (a : Ex) (f : Nat) | sub (a b : Ex) | tup (ts : List Tg) | stp (a : Ex) (f : Nat)
inductive St where
  /-- a.f = e, f perhaps a property with a setter -/
  | asgp (a : Ex) (f : Nat) (e : Ex)
  | asg (t : Tg) (e : Ex) | asgs (ts : List Tg) (e : Ex) | par (ts : List Tg) (es : List Ex)
  | aug (i : Nat) (o : BO) (e : Ex) | augf (a : Ex) (f : Nat) (o : BO) (e : Ex) | augs (a b : Ex) (o : BO) (e : Ex)
  | iff (c : Ex) (a b : List St) | whl (c : Ex) (b : List St)
  | for (tg : LT) (k : IK) (it : List Ex) (b : List St)
  | ret (e : Ex) | exp (e : Ex) | pass | brk | cont
  | rais (c : Nat) (es : List Ex)
  /-- try: b except one of cs: raise c(es) (from what was caught, from None) -/
  | tryRaise (b : List St) (cs : List Nat) (c : Nat) (es : List Ex)
  /-- try: b except one of cs: return e -/
  | tryRet (b : List St) (cs : List Nat) (e : Ex)
  /-- try: b except one of cs as x: slot i = "error " + x.tag -/
  | tryTag (b : List St) (cs : List Nat) (i : Nat)
  /-- try: b finally: f -/
  | fin (b f : List St)

inductive RS where
  | nx (s : Fr) (h : Hv) | rt (v : Va) (h : Hv) | bk (s : Fr) (h : Hv) | ct (s : Fr) (h : Hv) | ex (c : Nat) (fs : List (Nat × Va)) (s : Fr) (h : Hv) | no

/-- what a def reads off an exception: a field, None, by its tag -/
inductive FxR where
  | fld (f : Nat) | non | ite (t : List Nat) (a b : FxR)
structure FxP where
  tg : Nat
  is : List (List (List Nat) × FxR)
  el : FxR
/-- static tables: class, field: is it a plain field; a property's getter, setter; a method; __init__; class c below class d -/
structure Tb where
  fld : Nat → Nat → Bool
  prp : Nat → Nat → Option Nat
  stp : Nat → Nat → Option Nat
  met : Nat → Nat → Option Nat
  ini : Nat → Option Nat
  kit : TyV → TyC → Option Bool
  okC : Nat → Bool
  /-- own exceptions: the fields' names: tag's, the parameter's -/
  exc : Nat → Option (Nat × List Nat × Option Nat)
  /-- the parameter's name -/
  exk : Nat → Option Nat
  /-- an own exception's class, a field of its instances -/
  xfl : Nat → Nat → Bool
  /-- a def's number of parameters, its defaults -/
  ar : Nat → Nat
  dfl : Nat → List Va
  /-- how many of them may be given by place; the calls with keywords: how many by place, the keywords' names -/
  pos : Nat → Nat
  kwo : Nat → List (Nat × List Nat × List Va)
  /-- the classes that are caught; what is read off them -/
  cat : Nat → Option Bool
  wfx : Option FxP
  /-- len's method -/
  lenM : Nat
  /-- a def's level; the level here -/
  lv : Nat → Nat
  cur : Nat

/-! ### operations -/
def Bnd : Nat := 10000000
def gd {α : Type} (b : Bool) (r : Rs α) : Rs α := match b with
  | true => r
  | false => .no
def newOb (o : Ob) (h : Hv) : Rs Va := .ok (.ref h.n) (h.new o)
def i64 (i : Int) : Bool := decide (-18446744073709551616 < i) && decide (i < 18446744073709551616)
def i62 (i : Int) : Bool := decide (-4611686018427387904 ≤ i) && decide (i < 4611686018427387904)
def opBin (o : BO) (x y : Va) (h : Hv) : Rs Va := match o with
  | .add => (match x, y with
    | .int i, .int j => .ok (.int (i + j)) h
    | .str a, .str b => gd (Nat.ble (a.length + b.length) Bnd) (.ok (.str (a ++ b)) h)
    | .ref a, .ref b => (match h.get a, h.get b with
      | some (.lst xs), some (.lst ys) => gd (Nat.ble (xs.length + ys.length) Bnd) (newOb (.lst (xs ++ ys)) h)
      | some (.tup xs), some (.tup ys) => gd (Nat.ble (xs.length + ys.length) Bnd) (match xs, ys with
        | [], _ => .ok (.ref b) h
        | _ :: _, [] => .ok (.ref a) h
        | _ :: _, _ :: _ => newOb (.tup (xs ++ ys)) h)
      | _, _ => .no)
    | _, _ => .no)
  | .sub => (match x, y with
    | .int i, .int j => .ok (.int (i - j)) h
    | _, _ => .no)
  | .mul => (match x, y with
    | .int i, .int j => gd (i64 i || i64 j) (.ok (.int (i * j)) h)
    | .ref a, .int j => (match h.get a with
      | some (.lst xs) => gd (i64 j && decide (-1000000 < j) && decide (j < 1000000) && Nat.ble (xs.length * j.toNat) Bnd) (newOb (.lst (List.replicate j.toNat xs).flatten) h)
      | _ => .no)
    | _, _ => .no)
  | .fdv => (match x, y with
    | .int i, .int j => gd (decide (j ≠ 0) && decide (j.natAbs < 1073741824)) (.ok (.int (i.fdiv j)) h)
    | _, _ => .no)
  | .mod => (match x, y with
    | .int i, .int j => gd (decide (j ≠ 0)) (.ok (.int (i.fmod j)) h)
    | _, _ => .no)
  | .pow => (match x, y with
    | .int i, .int j => gd (decide (0 ≤ j) && decide (j ≤ 1000) && i64 i) (.ok (.int (i ^ j.toNat)) h)
    | _, _ => .no)

/-- x op= y, ints -/
def augI (o : BO) (x y : Va) (h : Hv) : Rs Va := match x, y with
  | .int i, .int j => (match o with
    | .add => .ok (.int (i + j)) h
    | .sub => .ok (.int (i - j)) h
    | .mul => gd (i64 i || i64 j) (.ok (.int (i * j)) h)
    | _ => .no)
  | _, _ => .no
/-- data as a tree -/
inductive DT where
  | non | bl (b : Bool) | int (i : Int) | str (x : List Nat) | lst (xs : List DT) | tup (xs : List DT)
def mapO {α β : Type} (f : α → Option β) : List α → Option (List β)
  | [] => some []
  | x :: xs => match f x with
    | none => none
    | some y => match mapO f xs with
      | none => none
      | some ys => some (y :: ys)
def rdD : Nat → Hv → Va → Option DT
  | 0, _, _ => none
  | n + 1, h, v => match v with
    | .non => some .non
    | .bl b => some (.bl b)
    | .int i => some (.int i)
    | .str x => (match x.all fun c => Nat.blt c 1114112 with
      | true => some (.str x)
      | false => none)
    | .ref a => (match h.rd a with
      | some (.lst xs) => (mapO (rdD n h) xs).map .lst
      | some (.tup xs) => (mapO (rdD n h) xs).map .tup
      | _ => none)
    | _ => none
def eqN : List Nat → List Nat → Bool
  | [], [] => true
  | x :: xs, y :: ys => Nat.beq x y && eqN xs ys
  | _, _ => false
def allT (f : DT → DT → Bool) : List DT → List DT → Bool
  | [], [] => true
  | x :: xs, y :: ys => f x y && allT f xs ys
  | _, _ => false
def b2n (b : Bool) : Int := match b with
  | true => 1
  | false => 0
def eqT : Nat → DT → DT → Bool
  | 0, _, _ => false
  | n + 1, d, e => match d, e with
    | .non, .non => true
    | .bl a, .bl b => a == b
    | .bl a, .int j => decide (b2n a = j)
    | .int i, .bl b => decide (i = b2n b)
    | .int i, .int j => decide (i = j)
    | .str x, .str y => eqN x y
    | .lst xs, .lst ys => allT (eqT n) xs ys
    | .tup xs, .tup ys => allT (eqT n) xs ys
    | _, _ => false
def dep : Nat := 60
def dep1 : Nat := 61
def opEqD (x y : Va) (h : Hv) : Option Bool := match rdD dep h x with
  | none => none
  | some d => match rdD dep h y with
    | none => none
    | some e => some (eqT dep1 d e)
/-- two lists of unlike lengths -/
def lenNe (x y : Va) (h : Hv) : Bool := match x, y with
  | .ref a, .ref b => (match h.rd a, h.rd b with
    | some (.lst xs), some (.lst ys) => not (Nat.beq xs.length ys.length)
    | _, _ => false)
  | _, _ => false
def opEq (x y : Va) (h : Hv) : Option Bool := match x with
  | .tok i => (match y with
    | .tok j => some (Nat.beq i j)
    | _ => none)
  | _ => (match lenNe x y h with
    | true => some false
    | false => opEqD x y h)
def ltS : List Nat → List Nat → Bool
  | [], [] => false
  | [], _ :: _ => true
  | _ :: _, [] => false
  | x :: xs, y :: ys => match Nat.blt x y with
    | true => true
    | false => Nat.beq x y && ltS xs ys
/-- a key's equality -/
def eqK : Va → Va → Bool
  | .int i, .int j => decide (i = j)
  | .str x, .str y => eqN x y
  | .tok i, .tok j => Nat.beq i j
  | _, _ => false
def isTokV : Va → Bool
  | .tok _ => true
  | _ => false
def isStrV : Va → Bool
  | .str _ => true
  | _ => false
/-- may k be looked for among such keys: a drawn text is not told apart from a written one -/
def mixK (k : Va) (l : List (Va × Va)) : Bool := match k with
  | .int _ => true
  | .str _ => l.all fun p => !isTokV p.1
  | .tok _ => l.all fun p => !isStrV p.1
  | _ => false
def isK : Va → Bool
  | .int _ => true
  | .str _ => true
  | _ => false
def eqKs : List Va → List Va → Bool
  | [], [] => true
  | x :: xs, y :: ys => eqK x y && eqKs xs ys
  | _, _ => false
def lookK (k : Va) : List (Va × Va) → Option Va
  | [] => none
  | p :: r => match eqK p.1 k with
    | true => some p.2
    | false => lookK k r
def putK (k v : Va) (l : List (Va × Va)) : List (Va × Va) := match l.any fun p => eqK p.1 k with
  | true => l.map fun p => match eqK p.1 k with
    | true => (p.1, v)
    | false => p
  | false => l ++ [(k, v)]
def lookT (k : List Va) : List (List Va × Va) → Option Va
  | [] => none
  | p :: r => match eqKs p.1 k with
    | true => some p.2
    | false => lookT k r
def putT (k : List Va) (v : Va) (l : List (List Va × Va)) : List (List Va × Va) := match l.any fun p => eqKs p.1 k with
  | true => l.map fun p => match eqKs p.1 k with
    | true => (p.1, v)
    | false => p
  | false => l ++ [(k, v)]
/-- x in y -/
def opIn (x y : Va) (h : Hv) : Option Bool := match y with
  | .str t => (match x with
    | .str [c] => some (t.any (Nat.beq c))
    | _ => none)
  | .ref a => (match h.rd a with
    | some (.lst xs) => (match rdD dep h x with
      | none => none
      | some d => match mapO (rdD dep h) xs with
        | none => none
        | some ds => some (ds.any fun z => eqT dep1 z d))
    | some (.tup xs) => (match rdD dep h x with
      | none => none
      | some d => match mapO (rdD dep h) xs with
        | none => none
        | some ds => some (ds.any fun z => eqT dep1 z d))
    | some (.dct kvs) => (match mixK x kvs with
      | true => some (lookK x kvs).isSome
      | false => none)
    | some (.dtu kvs) => (match x with
      | .ref b => (match h.get b with
        | some (.tup ks) => (match ks.all isK with
          | true => some (lookT ks kvs).isSome
          | false => none)
        | _ => none)
      | _ => none)
    | _ => none)
  | _ => none
def toB (o : Option Bool) (h : Hv) : Rs Bool := match o with
  | some b => .ok b h
  | none => .no
def opCmp (o : CO) (x y : Va) (h : Hv) : Rs Bool := match o with
  | .eq => toB (opEq x y h) h
  | .ne => toB ((opEq x y h).map (!·)) h
  | .isin => toB (opIn x y h) h
  | .notin => toB ((opIn x y h).map (!·)) h
  | .lt => (match x, y with
    | .int i, .int j => .ok (decide (i < j)) h
    | .str a, .str b => .ok (ltS a b) h
    | _, _ => .no)
  | .le => (match x, y with
    | .int i, .int j => .ok (decide (i ≤ j)) h
    | _, _ => .no)
  | .gt => (match x, y with
    | .int i, .int j => .ok (decide (j < i)) h
    | _, _ => .no)
  | .ge => (match x, y with
    | .int i, .int j => .ok (decide (j ≤ i)) h
    | _, _ => .no)
/-- a place of a sequence of that length -/
def ixO (n : Nat) (i : Int) : Option Nat := match i with
  | .ofNat k => (match Nat.blt k n with
    | true => some k
    | false => none)
  | .negSucc k => (match Nat.blt k n with
    | true => some (n - (k + 1))
    | false => none)
def getO {α : Type} (xs : List α) (o : Option Nat) : Option α := match o with
  | some k => xs[k]?
  | none => none
def toV (o : Option Va) (h : Hv) : Rs Va := match o with
  | some v => .ok v h
  | none => .no
def opIdx (x y : Va) (h : Hv) : Rs Va := match x, y with
  | .str s, .int i => gd (Nat.ble s.length Bnd) (match getO s (ixO s.length i) with
    | some c => .ok (.str [c]) h
    | none => .no)
  | .ref a, k => (match h.rd a with
    | some (.lst xs) => (match k with
      | .int i => toV (getO xs (ixO xs.length i)) h
      | _ => .no)
    | some (.tup xs) => (match k with
      | .int i => toV (getO xs (ixO xs.length i)) h
      | _ => .no)
    | some (.dct kvs) => gd (mixK k kvs) (toV (lookK k kvs) h)
    | some (.dtu kvs) => (match k with
      | .ref b => (match h.get b with
        | some (.tup ks) => (match ks.all isK with
          | true => toV (lookT ks kvs) h
          | false => .no)
        | _ => .no)
      | _ => .no)
    | _ => .no)
  | _, _ => .no
/-- a slice's end -/
def slE (n : Nat) (d : Nat) (o : Option Int) : Nat := match o with
  | none => d
  | some (.ofNat k) => (match Nat.ble k n with
    | true => k
    | false => n)
  | some (.negSucc k) => n - (k + 1)
def cutO {α : Type} (xs : List α) (lo hi : Option Int) : List α := (xs.drop (slE xs.length 0 lo)).take (slE xs.length xs.length hi - slE xs.length 0 lo)
def opSlc (x : Va) (lo hi : Option Int) (h : Hv) : Rs Va := match x with
  | .str s => gd (Nat.ble s.length Bnd) (.ok (.str (cutO s lo hi)) h)
  | .ref a => (match h.rd a with
    | some (.lst xs) => newOb (.lst (cutO xs lo hi)) h
    | some (.tup xs) => (match Nat.beq (slE xs.length 0 lo) 0 && Nat.beq (slE xs.length xs.length hi) xs.length with
      | true => .ok x h
      | false => newOb (.tup (cutO xs lo hi)) h)
    | _ => .no)
  | _ => .no
def opRev (x : Va) (h : Hv) : Rs Va := match x with
  | .ref a => (match h.rd a with
    | some (.lst xs) => newOb (.lst xs.reverse) h
    | _ => .no)
  | _ => .no
def truth (v : Va) (h : Hv) : Rs Bool := match v with
  | .non => .ok false h
  | .bl b => .ok b h
  | .int i => .ok (!decide (i = 0)) h
  | .str x => gd (Nat.ble x.length Bnd) (.ok (!x.isEmpty) h)
  | .ref a => (match h.rd a with
    | some (.lst xs) => .ok (!xs.isEmpty) h
    | some (.tup xs) => .ok (!xs.isEmpty) h
    | some (.dct xs) => (match h.get a with
      | some (.dct _) => .ok (!xs.isEmpty) h
      | _ => .no)
    | _ => .no)
  | _ => .no
/-- the exception that lies at a: its class, its fields -/
def xAt (h : Hv) (a : Nat) : Option (Nat × List (Nat × Va)) := match h.get a with
  | some (.exo a' c d) => (match Nat.beq a' a with
    | true => (match h.get d with
      | some (.exd d' fs) => (match Nat.beq d' d with
        | true => some (c, fs)
        | false => none)
      | _ => none)
    | false => none)
  | _ => none
def xty (h : Hv) (a : Nat) : Option TyV := match xAt h a with
  | some p => some (.exc p.1)
  | none => none
/-- a value's kind -/
def tyOf (v : Va) (h : Hv) : Option TyV := match v with
  | .non => some .non
  | .bl _ => some .bl
  | .int _ => some .int
  | .str _ => some .str
  | .tok _ => some .str
  | .ref a => (match h.rd a with
    | some (.lst _) => some .lst
    | some (.tup _) => some .tup
    | some (.dct _) => some .dct
    | some (.ins c _) => (match h.get a with
      | some (.ins _ _) => some (.ins c)
      | _ => none)
    | some (.exo _ _ _) => xty h a
    | _ => none)
  | _ => none
def ofTy (T : Tb) (v : Va) (h : Hv) (t : TyC) : Option Bool := match tyOf v h with
  | none => none
  | some y => T.kit y t
def anyTy (T : Tb) (v : Va) (h : Hv) : List TyC → Option Bool
  | [] => some false
  | t :: ts => match ofTy T v h t with
    | none => none
    | some true => some true
    | some false => anyTy T v h ts
/-- is None -/
def isNon : Va → Bool
  | .non => true
  | _ => false
def allInt : List Va → Option (List Int)
  | [] => some []
  | v :: vs => match v with
    | .int i => (match allInt vs with
      | some is => some (i :: is)
      | none => none)
    | _ => none
def allBl : List Va → Option (List Bool)
  | [] => some []
  | v :: vs => match v with
    | .bl i => (match allBl vs with
      | some is => some (i :: is)
      | none => none)
    | _ => none
def lookF (f : Nat) : List (Nat × Va) → Option Va
  | [] => none
  | p :: r => match Nat.beq p.1 f with
    | true => some p.2
    | false => lookF f r
def putFl (f : Nat) (v : Va) : List (Nat × Va) → List (Nat × Va)
  | [] => [(f, v)]
  | p :: r => match Nat.beq p.1 f with
    | true => (f, v) :: r
    | false => p :: putFl f v r
def wp : Fr → List Nat → Fr
  | s, [] => s
  | s, v :: vs => (wp s vs).set v none

/-! ### what is walked -/
inductive Wk where
  | lst (a n : Nat) | tup (a n : Nat) | str (x : List Nat) | rng (lo : Int) (n : Nat) | enm (a n : Nat) | zip (a b n : Nat) | zipT (a b n : Nat) | dct (a : Nat) (kvs : List (Va × Va))
def Wk.len : Wk → Nat
  | .lst _ n => n
  | .tup _ n => n
  | .str x => x.length
  | .rng _ n => n
  | .enm _ n => n
  | .zip _ _ n => n
  | .zipT _ _ n => n
  | .dct _ kvs => kvs.length
/-- the list, the tuple there, of that length -/
def lstAt (h : Hv) (a n : Nat) : Option (List Va) := match h.rd a with
  | some (.lst ys) => (match Nat.beq ys.length n with
    | true => some ys
    | false => none)
  | _ => none
def tupAt (h : Hv) (a n : Nat) : Option (List Va) := match h.rd a with
  | some (.tup ys) => (match Nat.beq ys.length n with
    | true => some ys
    | false => none)
  | _ => none
def lstOf (h : Hv) (a : Nat) : Option (List Va) := match h.rd a with
  | some (.lst ys) => some ys
  | _ => none
def tupOf (h : Hv) (a : Nat) : Option (List Va) := match h.rd a with
  | some (.tup ys) => some ys
  | _ => none
def pairO (x y : Option (List Va)) (n : Nat) : Option (List Va × List Va) := match x, y with
  | some xs, some ys => (match Nat.beq (min xs.length ys.length) n with
    | true => some (xs, ys)
    | false => none)
  | _, _ => none
def nthO (i : Nat) (o : Option (List Va)) : Option Va := match o with
  | some ys => ys[i]?
  | none => none
/-- the i-th item: values, whether they are a new tuple's -/
def Wk.yld (w : Wk) (i : Nat) (h : Hv) : Option (List Va × Bool) := match w with
  | .lst a n => (match nthO i (lstAt h a n) with
    | some v => some ([v], false)
    | none => none)
  | .tup a n => (match nthO i (tupAt h a n) with
    | some v => some ([v], false)
    | none => none)
  | .str x => (match x[i]? with
    | some c => some ([.str [c]], false)
    | none => none)
  | .rng lo n => (match Nat.blt i n with
    | true => some ([.int (lo + i)], false)
    | false => none)
  | .enm a n => (match nthO i (lstAt h a n) with
    | some v => some ([.int i, v], true)
    | none => none)
  | .zip a b n => (match pairO (lstOf h a) (lstOf h b) n with
    | some p => (match p.1[i]?, p.2[i]? with
      | some v, some w => some ([v, w], true)
      | _, _ => none)
    | none => none)
  | .zipT a b n => (match pairO (tupOf h a) (tupOf h b) n with
    | some p => (match p.1[i]?, p.2[i]? with
      | some v, some w => some ([v, w], true)
      | _, _ => none)
    | none => none)
  | .dct _ kvs => (match kvs[i]? with
    | some p => some ([p.1], false)
    | none => none)
def isS {α : Type} (o : Option α) : Bool := match o with
  | some _ => true
  | none => false
/-- does the walk end there (what is walked is as long as it was) -/
def Wk.fin (w : Wk) (h : Hv) : Bool := match w with
  | .lst a n => isS (lstAt h a n)
  | .tup a n => isS (tupAt h a n)
  | .enm a n => isS (lstAt h a n)
  | .zip a b n => isS (pairO (lstOf h a) (lstOf h b) n)
  | .zipT a b n => isS (pairO (tupOf h a) (tupOf h b) n)
  | _ => true
def setAll : Fr → List Nat → List Va → Option Fr
  | s, [], [] => some s
  | s, i :: is, v :: vs => setAll (s.set i (some v)) is vs
  | _, _, _ => none
def setT (t : LT) (y : List Va × Bool) (s : Fr) (h : Hv) : Option Fr := match t with
  | .one i => (match y.2 with
    | true => none
    | false => (match y.1 with
      | [v] => some (s.set i (some v))
      | _ => none))
  | .many is => (match y.2 with
    | true => setAll s is y.1
    | false => (match y.1 with
      | [.ref a] => (match h.rd a with
        | some (.tup vs) => setAll s is vs
        | _ => none)
      | _ => none))
  | .star _ _ => none

/-! ### the evaluator -/
/-- the defaults fill up; d: what the way to the call needs beside -/
def callF (T : Tb) (O : Orc) (d g : Nat) (vs : List Va) (h : Hv) : Rs Va := match Nat.blt (T.lv g + d) T.cur && ((Nat.ble vs.length (T.ar g) && Nat.ble vs.length (T.pos g)) && Nat.ble (T.ar g - vs.length) (T.dfl g).length) with
  | true => O g (vs ++ (T.dfl g).drop ((T.dfl g).length - (T.ar g - vs.length))) h
  | false => .no
def hasK (n : Nat) (ks : List Nat) (l : List (Nat × List Nat × List Va)) : Option (List Va) := match l with
  | [] => none
  | p :: r => match Nat.beq p.1 n && eqN p.2.1 ks with
    | true => some p.2.2
    | false => hasK n ks r
/-- by place and by keyword: vs, then ws, then the defaults -/
def callK (T : Tb) (O : Orc) (d g : Nat) (ks : List Nat) (vs ws : List Va) (h : Hv) : Rs Va := match hasK vs.length ks (T.kwo g) with
  | some ds => (match Nat.blt (T.lv g + d) T.cur && (Nat.beq ws.length ks.length && Nat.beq (vs.length + ws.length + ds.length) (T.ar g)) with
    | true => O g (vs ++ ws ++ ds) h
    | false => .no)
  | none => .no
/-- what making gives -/
def mkF (T : Tb) (O : Orc) (c g : Nat) (vs : List Va) (h : Hv) : Rs Va := (callF T O 1 g (.ref h.n :: vs) (h.new (.ins c []))).bind fun v h2 => match v with
  | .non => .ok (.ref h.n) h2
  | _ => .no
def okO (r : Rs α) : Rs α := match r with
  | .ok v h => .ok v h
  | _ => .no
/-- a value that an exception's text may show -/
def txFl : Va → Bool
  | .non => true
  | .bl _ => true
  | .int i => Nat.blt i.natAbs.log2 1920
  | .str y => Nat.ble y.length 1000 && y.all fun c => Nat.blt c 1114112
  | _ => false
def txOk (h : Hv) : Va → Bool
  | .non => true
  | .bl _ => true
  | .int i => Nat.blt i.natAbs.log2 1920
  | .str y => Nat.ble y.length Bnd
  | .ref a => (match h.get a with
    | some (.tup xs) => Nat.ble xs.length 100 && xs.all txFl
    | _ => (match h.rd a with
      | some (.lst xs) => Nat.ble xs.length 100 && xs.all txFl
      | _ => false))
  | _ => false
/-- the fields of an own exception -/
def excF (T : Tb) (c : Nat) (vs : List Va) (h : Hv) : Option (List (Nat × Va)) := match T.exc c with
  | some (tf, tag, pf) => (match pf with
    | none => (match vs with
      | [] => some [(tf, .str tag)]
      | _ :: _ => none)
    | some f => (match vs with
      | [v] => (match txOk h v with
        | true => some [(f, v), (tf, .str tag)]
        | false => none)
      | _ => none))
  | none => none
def raiseF (T : Tb) (c : Nat) (vs : List Va) (s : Fr) (h : Hv) : RS := match excF T c vs h with
  | some fs => .ex c fs s h
  | none => .no
/-- an own exception as a value -/
def mkX (T : Tb) (c : Nat) (vs : List Va) (h : Hv) : Rs Va := match excF T c vs h with
  | some fs => .ok (.ref h.n) ((h.new (.exo h.n c (h.n + 1))).new (.exd (h.n + 1) fs))
  | none => .no
structure Ev where
  e : Fr → Ex → Hv → Rs Va
  t : Fr → Ex → Hv → Rs Bool
  s : Fr → St → Hv → RS
def evNo : Ev := ⟨fun _ _ _ => .no, fun _ _ _ => .no, fun _ _ _ => .no⟩
def getV (s : Fr) (i : Nat) (h : Hv) : Rs Va := match s[i]? with
  | some (some v) => .ok v h
  | _ => .no
def items (h : Hv) (v : Va) : Option (List Va) := match v with
  | .ref a => (match h.rd a with
    | some (.lst xs) => some xs
    | some (.tup xs) => some xs
    | _ => none)
  | _ => none
/-- a display's items, from the left -/
def evAs (ev : Ex → Hv → Rs Va) : List (Bool × Ex) → Hv → Rs (List Va)
  | [], h => .ok [] h
  | x :: r, h => (ev x.2 h).bind fun v h1 => match x.1 with
    | true => (match items h1 v with
      | none => .no
      | some xs => (evAs ev r h1).bind fun ys h2 => .ok (xs ++ ys) h2)
    | false => (evAs ev r h1).bind fun ys h2 => .ok (v :: ys) h2
/-- without stars -/
def evPs (ev : Ex → Hv → Rs Va) : List Ex → Hv → Rs (List Va)
  | [], h => .ok [] h
  | x :: r, h => (ev x h).bind fun v h1 => (evPs ev r h1).bind fun ys h2 => .ok (v :: ys) h2
def evO (ev : Ex → Hv → Rs Va) : Option Ex → Hv → Rs (Option Int)
  | none, h => .ok none h
  | some x, h => (ev x h).bind fun v h1 => match v with
    | .int i => .ok (some i) h1
    | _ => .no
def bl (r : Rs Bool) : Rs Va := r.bind fun b h => .ok (.bl b) h
def one (vs : List Va) (g : Va → Rs Va) : Rs Va := match vs with
  | [v] => g v
  | _ => .no
def two (vs : List Va) (g : Va → Va → Rs Va) : Rs Va := match vs with
  | [v, w] => g v w
  | _ => .no
def bLen (h : Hv) (v : Va) : Rs Va := match v with
  | .str x => gd (Nat.ble x.length Bnd) (.ok (.int x.length) h)
  | .ref a => (match h.rd a with
    | some (.lst xs) => .ok (.int xs.length) h
    | some (.tup xs) => .ok (.int xs.length) h
    | some (.dct xs) => (match h.get a with
      | some (.dct _) => .ok (.int xs.length) h
      | _ => .no)
    | _ => .no)
  | _ => .no
def bInt (h : Hv) (v : Va) : Rs Va := match v with
  | .int i => .ok (.int i) h
  | .bl b => .ok (.int (b2n b)) h
  | _ => .no
def absI (i : Int) : Int := match i with
  | .ofNat _ => i
  | .negSucc _ => -i
def bAbs (h : Hv) (v : Va) : Rs Va := match v with
  | .int i => .ok (.int (absI i)) h
  | _ => .no
def pick (b : Bool) (i j : Int) : Int := match b with
  | true => j
  | false => i
def bMax (h : Hv) (v w : Va) : Rs Va := match v, w with
  | .int i, .int j => .ok (.int (pick (decide (i < j)) i j)) h
  | _, _ => .no
def bMin (h : Hv) (v w : Va) : Rs Va := match v, w with
  | .int i, .int j => .ok (.int (pick (decide (j < i)) i j)) h
  | _, _ => .no
def bList (h : Hv) (v : Va) : Rs Va := match v with
  | .ref a => (match h.rd a with
    | some (.lst xs) => newOb (.lst xs) h
    | some (.tup xs) => newOb (.lst xs) h
    | _ => .no)
  | _ => .no
def bTuple (h : Hv) (v : Va) : Rs Va := match v with
  | .ref a => (match h.rd a with
    | some (.lst xs) => newOb (.tup xs) h
    | some (.tup _) => .ok (.ref a) h
    | _ => .no)
  | _ => .no
def bSum (h : Hv) (v : Va) : Rs Va := match v with
  | .ref a => (match h.rd a with
    | some (.lst xs) => (match allInt xs with
      | some is => .ok (.int is.sum) h
      | none => .no)
    | _ => .no)
  | _ => .no
def bAll (h : Hv) (v : Va) : Rs Va := match v with
  | .ref a => (match h.rd a with
    | some (.lst xs) => (match allBl xs with
      | some is => .ok (.bl (is.all id)) h
      | none => .no)
    | _ => .no)
  | _ => .no
def bAny (h : Hv) (v : Va) : Rs Va := match v with
  | .ref a => (match h.rd a with
    | some (.lst xs) => (match allBl xs with
      | some is => .ok (.bl (is.any id)) h
      | none => .no)
    | _ => .no)
  | _ => .no
def opBlt (b : Bf) (vs : List Va) (h : Hv) : Rs Va := match b with
  | .len => one vs (bLen h)
  | .int => one vs (bInt h)
  | .abs => one vs (bAbs h)
  | .max => two vs (bMax h)
  | .min => two vs (bMin h)
  | .list => one vs (bList h)
  | .tuple => one vs (bTuple h)
  | .sum => one vs (bSum h)
  | .all => one vs (bAll h)
  | .any => one vs (bAny h)
  | _ => .no
def mApp (h : Hv) (a w : Va) : Rs Va := match a with
  | .ref p => (match h.get p with
    | some (.lst xs) => gd (Nat.blt xs.length Bnd) (.ok .non (h.set p (.lst (xs ++ [w]))))
    | _ => .no)
  | _ => .no
def mPop (h : Hv) (a : Va) : Rs Va := match a with
  | .ref p => (match h.get p with
    | some (.lst xs) => (match xs.getLast? with
      | some v => .ok v (h.set p (.lst xs.dropLast))
      | none => .no)
    | _ => .no)
  | _ => .no
def none0 (vs : List Va) (r : Rs Va) : Rs Va := match vs with
  | [] => r
  | _ => .no
def opBme (m : Bm) (a : Va) (vs : List Va) (h : Hv) : Rs Va := match m with
  | .append => one vs (mApp h a)
  | .pop => none0 vs (mPop h a)
  | _ => .no
/-- what a method is of -/
def isL (h : Hv) (v : Va) : Bool := match v with
  | .ref a => (match h.get a with
    | some (.lst _) => true
    | _ => false)
  | _ => false
def rcv (m : Bm) (v : Va) (h : Hv) : Bool := match m with
  | .append => isL h v
  | .pop => isL h v
  | _ => false
def wkIt (h : Hv) (v : Va) : Option Wk := match v with
  | .str x => some (.str x)
  | .ref a => (match h.rd a with
    | some (.lst xs) => some (.lst a xs.length)
    | some (.tup xs) => some (.tup a xs.length)
    | some (.dct kvs) => (match h.get a with
      | some (.frz _) => some (.dct a kvs)
      | _ => none)
    | _ => none)
  | _ => none
def wkR1 (v : Va) : Option Wk := match v with
  | .int j => (match i62 j with
    | true => some (.rng 0 j.toNat)
    | false => none)
  | _ => none
def wkR2 (v w : Va) : Option Wk := match v, w with
  | .int i, .int j => (match i62 i && i62 j with
    | true => some (.rng i (j - i).toNat)
    | false => none)
  | _, _ => none
def wkE (h : Hv) (v : Va) : Option Wk := match v with
  | .ref a => (match h.rd a with
    | some (.lst xs) => some (.enm a xs.length)
    | _ => none)
  | _ => none
def wkZ (h : Hv) (v w : Va) : Option Wk := match v, w with
  | .ref a, .ref b => (match h.rd a, h.rd b with
    | some (.lst xs), some (.lst ys) => some (.zip a b (min xs.length ys.length))
    | some (.tup xs), some (.tup ys) => some (.zipT a b (min xs.length ys.length))
    | _, _ => none)
  | _, _ => none
def wkOf (k : IK) (vs : List Va) (h : Hv) : Option Wk := match k with
  | .it => (match vs with
    | [v] => wkIt h v
    | _ => none)
  | .rng => (match vs with
    | [v] => wkR1 v
    | [v, w] => wkR2 v w
    | _ => none)
  | .enm => (match vs with
    | [v] => wkE h v
    | _ => none)
  | .zip => (match vs with
    | [v, w] => wkZ h v w
    | _ => none)
def RS.nxt (r : RS) (k : Fr → Hv → RS) : RS := match r with
  | .nx s h => k s h
  | .rt v h => .rt v h
  | .bk s h => .bk s h
  | .ct s h => .ct s h
  | .ex c f s h => .ex c f s h
  | .no => .no
def Rs.st (r : Rs α) (s : Fr) (k : α → Hv → RS) : RS := match r with
  | .ok a h => k a h
  | .ex c f h => .ex c f s h
  | .no => .no
def evB (ev : Fr → St → Hv → RS) : List St → Fr → Hv → RS
  | [], s, h => .nx s h
  | x :: r, s, h => (ev s x h).nxt fun s1 h1 => evB ev r s1 h1
/-- behind a turn -/
def RS.turn (r : RS) (k : Fr → Hv → RS) : RS := match r with
  | .nx s h => k s h
  | .ct s h => k s h
  | .bk s h => .nx s h
  | .rt v h => .rt v h
  | .ex c f s h => .ex c f s h
  | .no => .no
/-- k turns from the i-th on -/
def evF (w : Wk) (t : LT) (body : Fr → Hv → RS) : Nat → Nat → Fr → Hv → RS
  | 0, _, s, h => (match w.fin h with
    | true => .nx s h
    | false => .no)
  | k + 1, i, s, h => match w.yld i h with
    | none => .no
    | some y => match setT t y s h with
      | none => .no
      | some s1 => (body s1 h).turn fun s2 h2 => evF w t body k (i + 1) s2 h2
/-- all tests, from the left -/
def evC (ev : Ex → Hv → Rs Bool) : List Ex → Hv → Rs Bool
  | [], h => .ok true h
  | [x], h => ev x h
  | _ :: _ :: _, _ => .no
/-- a comprehension's turns; the list made so far lies at d -/
def evL (w : Wk) (t : LT) (cs : Fr → Hv → Rs Bool) (el : Fr → Hv → Rs Va) (s0 : Fr) (d : Nat) : Nat → Nat → Hv → Rs Va
  | 0, _, h => (match w.fin h with
    | true => .ok (.ref d) h
    | false => .no)
  | k + 1, i, h => match w.yld i h with
    | none => .no
    | some y => match setT t y s0 h with
      | none => .no
      | some s1 => match cs s1 h with
        | .ok b h1 => (match b with
          | true => (match el s1 h1 with
            | .ok v h2 => (match h2.get d with
              | some (.lst acc) => (match Nat.blt acc.length Bnd with
                | true => evL w t cs el s0 d k (i + 1) (h2.set d (.lst (acc ++ [v])))
                | false => .no)
              | _ => .no)
            | _ => .no)
          | false => evL w t cs el s0 d k (i + 1) h1)
        | _ => .no
/-- a dict comprehension's turns; the dict made so far lies at d -/
def evD (w : Wk) (t : LT) (cs : Fr → Hv → Rs Bool) (kx vx : Fr → Hv → Rs Va) (s0 : Fr) (d : Nat) : Nat → Nat → Hv → Rs Va
  | 0, _, h => (match w.fin h with
    | true => .ok (.ref d) h
    | false => .no)
  | k + 1, i, h => match w.yld i h with
    | none => .no
    | some y => match setT t y s0 h with
      | none => .no
      | some s1 => match cs s1 h with
        | .ok b h1 => (match b with
          | true => (match kx s1 h1 with
            | .ok u h2 => (match vx s1 h2 with
              | .ok v h3 => (match h3.get d with
                | some (.dct acc) => (match mixK u acc && Nat.blt acc.length Bnd with
                  | true => evD w t cs kx vx s0 d k (i + 1) (h3.set d (.dct (putK u v acc)))
                  | false => .no)
                | _ => .no)
              | _ => .no)
            | _ => .no)
          | false => evD w t cs kx vx s0 d k (i + 1) h1)
        | _ => .no
/-- where a name's, a field's thing lies -/
def vRef : Option (Option Va) → Option Nat
  | some (some (.ref p)) => some p
  | _ => none
def oRef : Option Va → Option Nat
  | some (.ref p) => some p
  | _ => none
def peek (s : Fr) (h : Hv) (a : Ex) : Option Nat := match a with
  | .var i => vRef s[i]?
  | .fld (.var i) f => (match vRef s[i]? with
    | some q => (match h.get q with
      | some (.ins _ fs) => oRef (lookF f fs)
      | _ => none)
    | none => none)
  | _ => none
def dctOf (h : Hv) (o : Option Nat) : Option (Nat × List (Va × Va)) := match o with
  | some p => (match h.get p with
    | some (.dct kvs) => some (p, kvs)
    | _ => none)
  | none => none
def unlk (p : Nat) (kvs : List (Va × Va)) (r : Rs Va) : Rs Va := match r with
  | .ok v h2 => .ok v (h2.set p (.dct kvs))
  | _ => .no
def dctAt (h : Hv) (v : Va) : Option (List (Va × Va)) := match v with
  | .ref a => (match h.rd a with
    | some (.dct kvs) => some kvs
    | _ => none)
  | _ => none
/-- x.f = v -/
def setF (T : Tb) (f : Nat) (v x : Va) (s : Fr) (h2 : Hv) : RS := match x with
  | .ref p => (match h2.get p with
    | some (.ins c fs) => (match T.fld c f && Nat.blt fs.length 1000 with
      | true => .nx s (h2.set p (.ins c (putFl f v fs)))
      | false => .no)
    | _ => .no)
  | _ => .no
/-- x.f = v, by a setter if there is one -/
def setFP (T : Tb) (O : Orc) (f : Nat) (v x : Va) (s : Fr) (h2 : Hv) : RS := match x with
  | .ref p => (match h2.get p with
    | some (.ins c _) => (match T.fld c f with
      | true => setF T f v x s h2
      | false => (match T.stp c f with
        | some g => (callF T O 2 g [.ref p, v] h2).st s fun _ h3 => .nx s h3
        | none => .no))
    | _ => .no)
  | _ => .no
/-- x[k] = v -/
def setI (v x k : Va) (s : Fr) (h3 : Hv) : RS := match x with
  | .ref p => (match h3.get p with
    | some (.lst xs) => (match k with
      | .int k => (match ixO xs.length k with
        | some j => .nx s (h3.set p (.lst (xs.set j v)))
        | none => .no)
      | _ => .no)
    | _ => .no)
  | _ => .no
def asgT (ev : Fr → Ex → Hv → Rs Va) (T : Tb) (O : Orc) : Tg → Va → Fr → Hv → RS
  | .var i, v, s, h => .nx (s.set i (some v)) h
  | .fld a f, v, s, h => (ev s a h).st s fun x h1 => setF T f v x s h1
  | .sub a b, v, s, h => (ev s a h).st s fun x h1 => (ev s b h1).st s fun i h2 => setI v x i s h2
  | _, _, _, _ => .no
/-- targets, values, from the left -/
def asgL (f : Tg → Va → Fr → Hv → RS) : List Tg → List Va → Fr → Hv → RS
  | [], [], s, h => .nx s h
  | t :: ts, v :: vs, s, h => (f t v s h).nxt fun s1 h1 => asgL f ts vs s1 h1
  | _, _, _, _ => .no
def gdS (b : Bool) (r : RS) : RS := match b with
  | true => r
  | false => .no
/-- as many values as targets -/
def asgN (f : Tg → Va → Fr → Hv → RS) (ts : List Tg) (vs : List Va) (s : Fr) (h : Hv) : RS := match Nat.beq vs.length ts.length with
  | true => asgL f ts vs s h
  | false => .no
/-- a field of the exception at a -/
def xdF (T : Tb) (f a : Nat) (h : Hv) : Rs Va := match xAt h a with
  | some (c, fs) => (match T.xfl c f with
    | true => toV (lookF f fs) h
    | false => .no)
  | none => .no
def xkey (T : Tb) (c f : Nat) : Bool := (T.exc c).isSome && match T.exk c with
  | some k => Nat.beq k f
  | none => false
abbrev EvE := Fr → Ex → Hv → Rs Va
abbrev EvT := Fr → Ex → Hv → Rs Bool
abbrev EvS := Fr → St → Hv → RS
def eBin (ev : EvE) (s : Fr) (o : BO) (a b : Ex) (h : Hv) : Rs Va := (ev s a h).bind fun x h1 => (ev s b h1).bind fun y h2 => opBin o x y h2
def vNeg (x : Va) (h1 : Hv) : Rs Va := match x with
  | .int i => .ok (.int (-i)) h1
  | _ => .no
def eNeg (ev : EvE) (s : Fr) (a : Ex) (h : Hv) : Rs Va := (ev s a h).bind fun x h1 => vNeg x h1
def vNot (x : Va) (h1 : Hv) : Rs Va := match x with
  | .bl b => .ok (.bl (!b)) h1
  | _ => .no
def eNot (ev : EvE) (s : Fr) (a : Ex) (h : Hv) : Rs Va := (ev s a h).bind fun x h1 => vNot x h1
def eAnd (ev : EvE) (s : Fr) (a b : Ex) (h : Hv) : Rs Va := (ev s a h).bind fun x h1 => match x with
  | .bl true => ev s b h1
  | .bl false => .ok (.bl false) h1
  | _ => .no
def eOr (ev : EvE) (s : Fr) (a b : Ex) (h : Hv) : Rs Va := (ev s a h).bind fun x h1 => match x with
  | .bl true => .ok (.bl true) h1
  | .bl false => ev s b h1
  | _ => .no
def eCmp (ev : EvE) (s : Fr) (o : CO) (a b : Ex) (h : Hv) : Rs Va := (ev s a h).bind fun x h1 => (ev s b h1).bind fun y h2 => bl (opCmp o x y h2)
def eIsN (ev : EvE) (s : Fr) (a : Ex) (h : Hv) : Rs Va := (ev s a h).bind fun x h1 => .ok (.bl (isNon x)) h1
def eNotN (ev : EvE) (s : Fr) (a : Ex) (h : Hv) : Rs Va := (ev s a h).bind fun x h1 => .ok (.bl (!isNon x)) h1
def eChn (ev : EvE) (s : Fr) (o p : CO) (a b c : Ex) (h : Hv) : Rs Va := (ev s a h).bind fun x h1 => (ev s b h1).bind fun y h2 => (opCmp o x y h2).bind fun k h3 => match k with
  | true => (ev s c h3).bind fun z h4 => bl (opCmp p y z h4)
  | false => .ok (.bl false) h3
def eIte (et : EvT) (ev : EvE) (s : Fr) (c a b : Ex) (h : Hv) : Rs Va := (et s c h).bind fun k h1 => match k with
  | true => ev s a h1
  | false => ev s b h1
def eLst (ev : EvE) (s : Fr) (es : List (Bool × Ex)) (h : Hv) : Rs Va := (evAs (ev s) es h).bind fun xs h1 => gd (Nat.ble xs.length Bnd) (newOb (.lst xs) h1)
def eTup (ev : EvE) (s : Fr) (es : List (Bool × Ex)) (h : Hv) : Rs Va := (evAs (ev s) es h).bind fun xs h1 => gd (Nat.ble xs.length Bnd) (newOb (.tup xs) h1)
def eIdx (ev : EvE) (s : Fr) (a b : Ex) (h : Hv) : Rs Va := (ev s a h).bind fun x h1 => (ev s b h1).bind fun y h2 => opIdx x y h2
def eSlc (ev : EvE) (s : Fr) (a : Ex) (lo hi : Option Ex) (h : Hv) : Rs Va := (ev s a h).bind fun x h1 => (evO (ev s) lo h1).bind fun l h2 => (evO (ev s) hi h2).bind fun u h3 => opSlc x l u h3
def eRev (ev : EvE) (s : Fr) (a : Ex) (h : Hv) : Rs Va := (ev s a h).bind fun x h1 => opRev x h1
def eFld (T : Tb) (O : Orc) (ev : EvE) (s : Fr) (a : Ex) (f : Nat) (h : Hv) : Rs Va := (ev s a h).bind fun x h1 => match x with
  | .ref p => (match h1.get p with
    | some (.ins c fs) => (match T.fld c f with
      | true => toV (lookF f fs) h1
      | false => (match T.prp c f with
        | some g => okO (callF T O 1 g [.ref p] h1)
        | none => .no))
    | some (.exo _ _ _) => xdF T f p h1
    | _ => .no)
  | _ => .no
def eCall (T : Tb) (O : Orc) (ev : EvE) (s : Fr) (f : Nat) (es : List Ex) (h : Hv) : Rs Va := (evPs (ev s) es h).bind fun vs h1 => callF T O 0 f vs h1
def eMet (T : Tb) (O : Orc) (ev : EvE) (s : Fr) (a : Ex) (m : Nat) (es : List Ex) (h : Hv) : Rs Va := (ev s a h).bind fun x h1 => match x with
  | .ref p => (match h1.get p with
    | some (.ins c fs) => (match T.met c m with
      | some g => (match lookF m fs with
        | none => (evPs (ev s) es h1).bind fun vs h2 => callF T O 0 g (.ref p :: vs) h2
        | some _ => .no)
      | none => .no)
    | _ => .no)
  | _ => .no
def eMk (T : Tb) (O : Orc) (ev : EvE) (s : Fr) (c : Nat) (es : List Ex) (h : Hv) : Rs Va := match T.ini c with
  | some g => (evPs (ev s) es h).bind fun vs h1 => mkF T O c g vs h1
  | none => (match Nat.blt 2 T.cur && (T.exc c).isSome with
    | true => (evPs (ev s) es h).bind fun vs h1 => mkX T c vs h1
    | false => .no)
def eBlt (ev : EvE) (s : Fr) (b : Bf) (es : List Ex) (h : Hv) : Rs Va := (evPs (ev s) es h).bind fun vs h1 => opBlt b vs h1
def eBme (ev : EvE) (s : Fr) (m : Bm) (a : Ex) (es : List Ex) (h : Hv) : Rs Va := (ev s a h).bind fun x h1 => gd (rcv m x h1) ((evPs (ev s) es h1).bind fun vs h2 => opBme m x vs h2)
def eIsi (T : Tb) (ev : EvE) (s : Fr) (a : Ex) (ts : List TyC) (h : Hv) : Rs Va := (ev s a h).bind fun x h1 => bl (toB (anyTy T x h1 ts) h1)
def eLc (et : EvT) (ev : EvE) (s : Fr) (e : Ex) (t : LT) (k : IK) (it ifs : List Ex) (ws : List Nat) (h : Hv) : Rs Va := (evPs (ev s) it h).bind fun vs h1 => match wkOf k vs h1 with
  | none => .no
  | some w => evL w t (fun s2 h2 => evC (et s2) ifs h2) (fun s2 h2 => ev s2 e h2) (wp s ws) h1.n w.len 0 (h1.new (.lst []))
def eLck (ev : EvE) (s : Fr) (a e : Ex) (h : Hv) : Rs Va := match dctOf h (peek s h a) with
  | some p => unlk p.1 p.2 (ev s e (h.set p.1 (.frz (.dct p.2))))
  | none => ev s e h
def eDlt (kvs : List (Ex × Ex)) (h : Hv) : Rs Va := match kvs with
  | [] => newOb (.dct []) h
  | _ => .no
def eDst (ev : EvE) (s : Fr) (a k v : Ex) (h : Hv) : Rs Va := (ev s a h).bind fun x h1 => match dctAt h1 x with
  | some kvs => gd (Nat.blt kvs.length Bnd) ((ev s k h1).bind fun y h2 => (ev s v h2).bind fun z h3 => gd (mixK y kvs) (newOb (.dct (putK y z kvs)) h3))
  | none => .no
def eDc (et : EvT) (ev : EvE) (s : Fr) (ke ve : Ex) (t : LT) (k : IK) (it ifs : List Ex) (ws : List Nat) (h : Hv) : Rs Va := (evPs (ev s) it h).bind fun vs h1 => match wkOf k vs h1 with
  | none => .no
  | some w => evD w t (fun s2 h2 => evC (et s2) ifs h2) (fun s2 h2 => ev s2 ke h2) (fun s2 h2 => ev s2 ve h2) (wp s ws) h1.n w.len 0 (h1.new (.dct []))
def joinT (sep : List Nat) : List (List Nat) → List Nat
  | [] => []
  | q :: r => sep ++ (q ++ joinT sep r)
def joinS (sep : List Nat) : List (List Nat) → List Nat
  | [] => []
  | p :: r => p ++ joinT sep r
def allStr : List Va → Option (List (List Nat))
  | [] => some []
  | v :: vs => match v with
    | .str x => (match allStr vs with
      | some xs => some (x :: xs)
      | none => none)
    | _ => none
def sumLen : List (List Nat) → Nat
  | [] => 0
  | x :: xs => x.length + sumLen xs
def opJoin (x y : Va) (h : Hv) : Rs Va := match x with
  | .str sep => (match items h y with
    | some vs => (match allStr vs with
      | some xs => gd (Nat.ble (sumLen xs + xs.length * sep.length) Bnd) (.ok (.str (joinS sep xs)) h)
      | none => .no)
    | none => .no)
  | _ => .no
def isPre : List Nat → List Nat → Bool
  | [], _ => true
  | _ :: _, [] => false
  | x :: xs, y :: ys => Nat.beq x y && isPre xs ys
/-- the rest of a text cut at S: k signs to be passed over, the piece so far -/
def splS (S : List Nat) : List Nat → Nat → List Nat → List (List Nat)
  | [], _, acc => [acc]
  | c :: r, k, acc => match k with
    | j + 1 => splS S r j acc
    | 0 => (match isPre S (c :: r) with
      | true => acc :: splS S r (S.length - 1) []
      | false => splS S r 0 (acc ++ [c]))
def opSplit (x y : Va) (h : Hv) : Rs Va := match x, y with
  | .str s, .str sep => gd (!sep.isEmpty && (sep.all (fun c => Nat.blt c 256) && Nat.blt s.length Bnd)) (newOb (.lst ((splS sep s 0 []).map Va.str)) h)
  | _, _ => .no
def isStrB : Va → Bool
  | .str _ => true
  | _ => false
def eJoin (ev : EvE) (s : Fr) (a e : Ex) (h : Hv) : Rs Va := (ev s a h).bind fun x h1 => gd (isStrB x) ((ev s e h1).bind fun y h2 => opJoin x y h2)
def eSplit (ev : EvE) (s : Fr) (a e : Ex) (h : Hv) : Rs Va := (ev s a h).bind fun x h1 => gd (isStrB x) ((ev s e h1).bind fun y h2 => opSplit x y h2)
/-- a field of a caught exception -/
def xfv (T : Tb) (c f : Nat) (fs : List (Nat × Va)) (h : Hv) : Rs Va := match T.xfl c f with
  | true => toV (lookF f fs) h
  | false => .no
def evFxR (T : Tb) (c tg : Nat) (fs : List (Nat × Va)) : FxR → Hv → Rs Va
  | .fld f, h => xfv T c f fs h
  | .non, h => .ok .non h
  | .ite t a b, h => (xfv T c tg fs h).bind fun x h1 => (opCmp .eq x (.str t) h1).bind fun k h2 => match k with
    | true => evFxR T c tg fs a h2
    | false => evFxR T c tg fs b h2
def evFxI (T : Tb) (c tg : Nat) (fs : List (Nat × Va)) (el : FxR) : List (List (List Nat) × FxR) → Hv → Rs Va
  | [], h => evFxR T c tg fs el h
  | p :: is, h => (xfv T c tg fs h).bind fun x h1 => gd (Nat.ble p.1.length Bnd) ((opCmp .isin x (.ref h1.n) (h1.new (.tup (p.1.map Va.str)))).bind fun k h2 => match k with
    | true => evFxR T c tg fs p.2 h2
    | false => evFxI T c tg fs el is h2)
def whyX (T : Tb) (c : Nat) (fs : List (Nat × Va)) (h : Hv) : Rs Va := match T.cat c with
  | some true => (match T.wfx with
    | some p => (xfv T c p.tg fs h).bind fun t h1 => (evFxI T c p.tg fs p.el p.is h1).bind fun v h2 => newOb (.tup [t, v]) h2
    | none => .no)
  | _ => .no
def vWhy (T : Tb) (r : Rs Va) : Rs Va := match r with
  | .ok v h1 => newOb (.tup [.str [], v]) h1
  | .ex c fs h1 => okO (whyX T c fs h1)
  | .no => .no
def eWhy (T : Tb) (ev : EvE) (s : Fr) (b : Ex) (h : Hv) : Rs Va := vWhy T (ev s b h)
def mkK (T : Tb) (O : Orc) (c g : Nat) (ks : List Nat) (vs ws : List Va) (h : Hv) : Rs Va := (callK T O 1 g ks (.ref h.n :: vs) ws (h.new (.ins c []))).bind fun v h2 => match v with
  | .non => .ok (.ref h.n) h2
  | _ => .no
def eMkk (T : Tb) (O : Orc) (ev : EvE) (s : Fr) (c f : Nat) (e : Ex) (h : Hv) : Rs Va := match T.ini c with
  | some g => (ev s e h).bind fun v h1 => mkK T O c g [f] [] [v] h1
  | none => (match Nat.blt 2 T.cur && xkey T c f with
    | true => (ev s e h).bind fun v h1 => mkX T c [v] h1
    | false => .no)
def eMkw (T : Tb) (O : Orc) (ev : EvE) (s : Fr) (c : Nat) (es : List Ex) (ks : List Nat) (ws : List Ex) (h : Hv) : Rs Va := match T.ini c with
  | some g => (evPs (ev s) es h).bind fun vs h1 => (evPs (ev s) ws h1).bind fun us h2 => mkK T O c g ks vs us h2
  | none => .no
def eMetw (T : Tb) (O : Orc) (ev : EvE) (s : Fr) (a : Ex) (m : Nat) (es : List Ex) (ks : List Nat) (ws : List Ex) (h : Hv) : Rs Va := (ev s a h).bind fun x h1 => match x with
  | .ref p => (match h1.get p with
    | some (.ins c fs) => (match T.met c m with
      | some g => (match lookF m fs with
        | none => (evPs (ev s) es h1).bind fun vs h2 => (evPs (ev s) ws h2).bind fun us h3 => callK T O 0 g ks (.ref p :: vs) us h3
        | some _ => .no)
      | none => .no)
    | _ => .no)
  | _ => .no
def lenV (v : Va) (h : Hv) : Rs Va := match v with
  | .int i => (match decide (0 ≤ i) && decide (i < 1000000000) with
    | true => .ok (.int i) h
    | false => .no)
  | _ => .no
def vLenI (T : Tb) (O : Orc) (x : Va) (h : Hv) : Rs Va := match x with
  | .ref p => (match h.get p with
    | some (.ins c _) => (match T.met c T.lenM with
      | some g => (okO (callF T O 1 g [.ref p] h)).bind lenV
      | none => .no)
    | _ => bLen h (.ref p))
  | v => bLen h v
def eLenI (T : Tb) (O : Orc) (ev : EvE) (s : Fr) (a : Ex) (h : Hv) : Rs Va := (ev s a h).bind fun x h1 => vLenI T O x h1
def stepE (T : Tb) (O : Orc) (ev : EvE) (et : EvT) (s : Fr) (x : Ex) (h : Hv) : Rs Va := match x with
  | .cst v => .ok v h
  | .var i => getV s i h
  | .bin o a b => eBin ev s o a b h
  | .neg a => eNeg ev s a h
  | .not a => eNot ev s a h
  | .and a b => eAnd ev s a b h
  | .or a b => eOr ev s a b h
  | .cmp o a b => eCmp ev s o a b h
  | .isN a => eIsN ev s a h
  | .notN a => eNotN ev s a h
  | .chn o p a b c => eChn ev s o p a b c h
  | .ite c a b => eIte et ev s c a b h
  | .lst es => eLst ev s es h
  | .tup es => eTup ev s es h
  | .idx a b => eIdx ev s a b h
  | .slc a lo hi => eSlc ev s a lo hi h
  | .rev a => eRev ev s a h
  | .fld a f => eFld T O ev s a f h
  | .call f es => eCall T O ev s f es h
  | .met a m es => eMet T O ev s a m es h
  | .mk c es => eMk T O ev s c es h
  | .mkk c f e => eMkk T O ev s c f e h
  | .blt b es => eBlt ev s b es h
  | .bme m a es => eBme ev s m a es h
  | .isi a ts => eIsi T ev s a ts h
  | .lc e t k it ifs ws => eLc et ev s e t k it ifs ws h
  | .lck a e => eLck ev s a e h
  | .dlt kvs => eDlt kvs h
  | .dst a k v => eDst ev s a k v h
  | .dc ke ve t k it ifs ws => eDc et ev s ke ve t k it ifs ws h
  | .why b => eWhy T ev s b h
  | .mkw c es ks ws => eMkw T O ev s c es ks ws h
  | .metw a m es ks ws => eMetw T O ev s a m es ks ws h
  | .lenI a => eLenI T O ev s a h
  | .join a e => eJoin ev s a e h
  | .split a e => eSplit ev s a e h
  | _ => .no
def tNot (et : EvT) (s : Fr) (a : Ex) (h : Hv) : Rs Bool := (et s a h).bind fun b h1 => .ok (!b) h1
def tAnd (et : EvT) (s : Fr) (a b : Ex) (h : Hv) : Rs Bool := (et s a h).bind fun k h1 => match k with
  | true => et s b h1
  | false => .ok false h1
def tOr (et : EvT) (s : Fr) (a b : Ex) (h : Hv) : Rs Bool := (et s a h).bind fun k h1 => match k with
  | true => .ok true h1
  | false => et s b h1
def tVal (ev : EvE) (s : Fr) (a : Ex) (h : Hv) : Rs Bool := (ev s a h).bind fun v h1 => truth v h1
def stepT (ev : EvE) (et : EvT) (s : Fr) (x : Ex) (h : Hv) : Rs Bool := match x with
  | .not a => tNot et s a h
  | .and a b => tAnd et s a b h
  | .or a b => tOr et s a b h
  | .val a => tVal ev s a h
  | _ => .no
def sAsg (T : Tb) (O : Orc) (ev : EvE) (s : Fr) (t : Tg) (e : Ex) (h : Hv) : RS := (ev s e h).st s fun v h1 => asgT ev T O t v s h1
def sAsgP (T : Tb) (O : Orc) (ev : EvE) (s : Fr) (a : Ex) (f : Nat) (e : Ex) (h : Hv) : RS := (ev s e h).st s fun v h1 => (ev s a h1).st s fun x h2 => setFP T O f v x s h2
def sAsgs (T : Tb) (O : Orc) (ev : EvE) (s : Fr) (ts : List Tg) (e : Ex) (h : Hv) : RS := (ev s e h).st s fun v h1 => (match v with
  | .ref a => (match h1.rd a with
    | some (.tup vs) => asgN (asgT ev T O) ts vs s h1
    | _ => .no)
  | _ => .no)
def sPar (T : Tb) (O : Orc) (ev : EvE) (s : Fr) (ts : List Tg) (es : List Ex) (h : Hv) : RS := (evPs (ev s) es h).st s fun vs h1 => gdS (Nat.ble vs.length Bnd) (asgN (asgT ev T O) ts vs s h1)
def sAug (ev : EvE) (s : Fr) (i : Nat) (o : BO) (e : Ex) (h : Hv) : RS := (getV s i h).st s fun v h0 => (ev s e h0).st s fun w h1 => (augI o v w h1).st s fun z h2 => .nx (s.set i (some z)) h2
def sIff (et : EvT) (es : EvS) (s : Fr) (c : Ex) (a b : List St) (h : Hv) : RS := (et s c h).st s fun k h1 => match k with
  | true => evB es a s h1
  | false => evB es b s h1
def sWhl (et : EvT) (es : EvS) (s : Fr) (c : Ex) (b : List St) (h : Hv) : RS := (et s c h).st s fun k h1 => match k with
  | true => (evB es b s h1).turn fun s2 h2 => es s2 (.whl c b) h2
  | false => .nx s h1
def sFor (ev : EvE) (es : EvS) (s : Fr) (t : LT) (k : IK) (it : List Ex) (b : List St) (h : Hv) : RS := (evPs (ev s) it h).st s fun vs h1 => match wkOf k vs h1 with
  | none => .no
  | some w => evF w t (fun s2 h2 => evB es b s2 h2) w.len 0 s h1
def sRet (ev : EvE) (s : Fr) (e : Ex) (h : Hv) : RS := (ev s e h).st s fun v h1 => .rt v h1
def sExp (ev : EvE) (s : Fr) (e : Ex) (h : Hv) : RS := (ev s e h).st s fun _ h1 => .nx s h1
def sRais (T : Tb) (ev : EvE) (s : Fr) (c : Nat) (es : List Ex) (h : Hv) : RS := match Nat.blt 2 T.cur && (T.exc c).isSome with
  | true => (evPs (ev s) es h).st s fun vs h1 => raiseF T c vs s h1
  | false => .no
def stepS (T : Tb) (O : Orc) (ev : EvE) (et : EvT) (es : EvS) (s : Fr) (x : St) (h : Hv) : RS := match x with
  | .asg t e => sAsg T O ev s t e h
  | .asgp a f e => sAsgP T O ev s a f e h
  | .asgs ts e => sAsgs T O ev s ts e h
  | .par ts es => sPar T O ev s ts es h
  | .aug i o e => sAug ev s i o e h
  | .iff c a b => sIff et es s c a b h
  | .whl c b => sWhl et es s c b h
  | .for t k it b => sFor ev es s t k it b h
  | .ret e => sRet ev s e h
  | .exp e => sExp ev s e h
  | .rais c es => sRais T ev s c es h
  | .pass => .nx s h
  | .brk => .bk s h
  | .cont => .ct s h
  | _ => .no
def evStep (T : Tb) (O : Orc) (ih : Ev) : Ev := ⟨stepE T O ih.e ih.t, stepT ih.e ih.t, stepS T O ih.e ih.t ih.s⟩
/-- fuel: the depth of the text, and a while's turns -/
def evs (T : Tb) (O : Orc) (n : Nat) : Ev := Nat.rec evNo (fun _ ih => evStep T O ih) n
theorem evs_succ (T : Tb) (O : Orc) (n : Nat) : evs T O (n + 1) = evStep T O (evs T O n) := rfl
/-- a def's body: its slots begin with the arguments -/
def bodyOf (T : Tb) (O : Orc) (n : Nat) (slots : Nat) (b : List St) (vs : List Va) (h : Hv) : Rs Va := match evB (evs T O n).s b (vs.map some ++ List.replicate (slots - vs.length) none) h with
  | .nx _ h1 => .ok .non h1
  | .rt v h1 => .ok v h1
  | .ex c f _ h1 => .ex c f h1
  | _ => .no
end MP
set_option linter.all false
set_option maxRecDepth 100000
set_option maxHeartbeats 4000000
/-! The small heap in the layer's heap: where each place lies, what it holds. -/
namespace MP
open PySem L2

/-- texts that are drawn -/
structure Toks where
  nt : Nat
  tk : Nat → Str
  tinj : ∀ i j, i < nt → j < nt → tk i = tk j → i = j
  tlay : ∀ i, i < nt → (tk i).cps.toList.all (fun c => Nat.blt c 1114112) = true
  /-- the tables of code objects that are looked after -/
  tbs : List (Addr × Str)
def Toks.nil : Toks := ⟨0, fun _ => ⟨#[]⟩, fun _ _ h => absurd h (Nat.not_lt_zero _), fun _ h => absurd h (Nat.not_lt_zero _), []⟩
/-- where the defs and classes lie, what the fields are called -/
structure Wd extends Toks where
  fa : Nat → Addr
  ca : Nat → Addr
  an : Nat → Str
  inj : ∀ i j, an i = an j → i = j

section
variable (M : Wd)
def RV (r : List Addr) : Va → V → Prop
  | .non, v => v = V.non
  | .bl b, v => v = V.bl b
  | .int i, v => v = V.int i
  | .str x, v => v = V.str ⟨x.toArray⟩
  | .ref a, v => ∃ p, r[a]? = some p ∧ v = V.ref p
  | .fn f, v => v = V.ref (M.fa f)
  | .cl c, v => v = V.ref (M.ca c)
  | .tok k, v => k < M.nt ∧ v = V.str (M.tk k)
def RK : Va → Key → Prop
  | .int i, k => k = Sum.inl i
  | .str x, k => k = Sum.inr ⟨x.toArray⟩
  | _, _ => False
def RKt : Va → Key → Prop
  | .tok i, k => i < M.nt ∧ k = Sum.inr (M.tk i)
  | v, k => RK v k
abbrev RVs (r : List Addr) : List Va → List V → Prop := Paired (RV M r)
abbrev RFs (r : List Addr) : List (Nat × Va) → List (Str × V) → Prop := Paired fun p q => q.1 = M.an p.1 ∧ RV M r p.2 q.2
def RO (r : List Addr) : Ob → HO → Prop
  | .lst xs, u => ∃ ys, u = HO.lst ys ∧ RVs M r xs ys
  | .tup xs, u => ∃ ys, u = HO.tup ys ∧ RVs M r xs ys
  | .dct kvs, u => ∃ ys, u = HO.dK ys ∧ Paired (fun (p : Va × Va) (q : Key × V) => RKt M p.1 q.1 ∧ RV M r p.2 q.2) kvs ys
  | .dtu kvs, u => ∃ ys, u = HO.dT ys ∧ Paired (fun (p : List Va × Va) (q : List Key × V) => Paired RK p.1 q.1 ∧ RV M r p.2 q.2) kvs ys
  | .ins c fs, u => ∃ dx ys, u = HO.ins (M.ca c) dx ys ∧ RFs M r fs ys
  | .frz o, u => ∃ ob v, u = HO.frz ob v ∧ RO r o v
  | .exo a c d, u => ∃ p q, r[a]? = some p ∧ r[d]? = some q ∧ u = exo p (M.ca c) (some q)
  | .exd a fs, u => ∃ q ys, r[a]? = some q ∧ u = exd q ys ∧ RFs M r fs ys

/-- no table of code objects -/
def Nt (u : HO) : Prop := ∀ ps, u ≠ .tbl ps
/-- .. no dict of an exception in flight -/
def No (u : HO) : Prop := Nt u ∧ ∀ ys, u ≠ .xd ys
theorem RO.no {r : List Addr} : ∀ {o : Ob} {u : HO}, RO M r o u → No u
  | .lst _, _, ⟨_, e, _⟩ => by rw [e]; exact ⟨nofun, nofun⟩
  | .tup _, _, ⟨_, e, _⟩ => by rw [e]; exact ⟨nofun, nofun⟩
  | .dct _, _, ⟨_, e, _⟩ => by rw [e]; exact ⟨nofun, nofun⟩
  | .dtu _, _, ⟨_, e, _⟩ => by rw [e]; exact ⟨nofun, nofun⟩
  | .ins _ _, _, ⟨_, _, e, _⟩ => by rw [e]; exact ⟨nofun, nofun⟩
  | .frz _, _, ⟨_, _, e, _⟩ => by rw [e]; exact ⟨nofun, nofun⟩
  | .exo _ _ _, _, ⟨_, _, _, _, e⟩ => by rw [e]; exact ⟨(fun _ z => by cases z), (fun _ z => by cases z)⟩
  | .exd _ _, _, ⟨_, _, _, e, _⟩ => by rw [e]; exact ⟨(fun _ z => by cases z), (fun _ z => by cases z)⟩
theorem RO.nt {r : List Addr} : ∀ {o : Ob} {u : HO}, RO M r o u → Nt u
  | .lst _, _, ⟨_, e, _⟩, _, z => by rw [e] at z; cases z
  | .tup _, _, ⟨_, e, _⟩, _, z => by rw [e] at z; cases z
  | .dct _, _, ⟨_, e, _⟩, _, z => by rw [e] at z; cases z
  | .dtu _, _, ⟨_, e, _⟩, _, z => by rw [e] at z; cases z
  | .ins _ _, _, ⟨_, _, e, _⟩, _, z => by rw [e] at z; cases z
  | .frz _, _, ⟨_, _, e, _⟩, _, z => by rw [e] at z; cases z
  | .exo _ _ _, _, ⟨_, _, _, _, e⟩, _, z => by rw [e] at z; cases z
  | .exd _ _, _, ⟨_, _, _, e, _⟩, _, z => by rw [e] at z; cases z
/-- the frame's slots: what the small frame knows -/
def RF (r : List Addr) (s : Fr) (σ : L2.St) : Prop := s.length = σ.length ∧ ∀ (i : Nat) (v : Va), s[i]? = some (some v) → ∃ x, σ[i]? = some (some x) ∧ RV M r v x

structure Emb (r : List Addr) (h : Hv) (H : Hp) : Prop where
  len : r.length = h.n
  nd : r.Nodup
  tr : ∀ p ∈ r, ∃ u, H p = some u ∧ No u
  at_ : ∀ a o, h.get a = some o → ∃ p u, r[a]? = some p ∧ H p = some u ∧ RO M r o u
  tab : LamX.Tabs M.tbs H

/-- from (r, H) to (r', H'), where the small heap is h': what the small heap does not hold stays -/
structure Gro (r : List Addr) (H : Hp) (h' : Hv) (r' : List Addr) (H' : Hp) : Prop where
  pre : r <+: r'
  emb : Emb M r' h' H'
  new : ∀ p ∈ r', p ∉ r → ∀ u, H p = some u → ∃ ps, u = .tbl ps
  fre : ∀ p u, H p = some u → p ∉ r → Nt u → H' p = some u
  frz : ∀ p ob u, H p = some (.frz ob u) → H' p = some (.frz ob u)
  tab : LamX.Tabs M.tbs H → LamX.Tabs M.tbs H'
end

section
variable {M : Wd} {r r' r2 : List Addr}
theorem pre_get (h : r <+: r') {a : Nat} {p : Addr} (e : r[a]? = some p) : r'[a]? = some p := by
  obtain ⟨t, rfl⟩ := h
  rw [List.getElem?_append_left]
  · exact e
  · exact (List.getElem?_eq_some_iff.mp e).1
theorem RV.mono (h : r <+: r') : ∀ {v : Va} {x : V}, RV M r v x → RV M r' v x
  | .non, _, q => q
  | .bl _, _, q => q
  | .int _, _, q => q
  | .str _, _, q => q
  | .ref _, _, ⟨p, e, q⟩ => ⟨p, pre_get h e, q⟩
  | .fn _, _, q => q
  | .cl _, _, q => q
  | .tok _, _, q => q
theorem RVs.mono (h : r <+: r') {vs : List Va} {xs : List V} (q : RVs M r vs xs) : RVs M r' vs xs := Paired.mapP q fun _ _ z => z.mono h
theorem RFs.mono (h : r <+: r') {vs : List (Nat × Va)} {xs : List (Str × V)} (q : RFs M r vs xs) : RFs M r' vs xs := Paired.mapP q fun _ _ z => ⟨z.1, z.2.mono h⟩
theorem RO.mono (h : r <+: r') : ∀ {o : Ob} {u : HO}, RO M r o u → RO M r' o u
  | .lst _, _, ⟨ys, e, q⟩ => ⟨ys, e, RVs.mono h q⟩
  | .tup _, _, ⟨ys, e, q⟩ => ⟨ys, e, RVs.mono h q⟩
  | .dct _, _, ⟨ys, e, q⟩ => ⟨ys, e, Paired.mapP q fun _ _ z => ⟨z.1, z.2.mono h⟩⟩
  | .dtu _, _, ⟨ys, e, q⟩ => ⟨ys, e, Paired.mapP q fun _ _ z => ⟨z.1, z.2.mono h⟩⟩
  | .ins _ _, _, ⟨dx, ys, e, q⟩ => ⟨dx, ys, e, RFs.mono h q⟩
  | .frz _, _, ⟨ob, v, e, q⟩ => ⟨ob, v, e, RO.mono h q⟩
  | .exo _ _ _, _, ⟨p, q, e1, e2, e3⟩ => ⟨p, q, pre_get h e1, pre_get h e2, e3⟩
  | .exd _ _, _, ⟨q, ys, e1, e2, e3⟩ => ⟨q, ys, pre_get h e1, e2, RFs.mono h e3⟩
theorem RF.mono (h : r <+: r') {s : Fr} {σ : L2.St} (q : RF M r s σ) : RF M r' s σ := ⟨q.1, fun i v e => let ⟨x, e1, z⟩ := q.2 i v e; ⟨x, e1, z.mono h⟩⟩
theorem RF.get {s : Fr} {σ : L2.St} (q : RF M r s σ) {i : Nat} {v : Va} (e : s[i]? = some (some v)) : ∃ x, σ[i]? = some (some x) ∧ RV M r v x := q.2 i v e
theorem RF.set {s : Fr} {σ : L2.St} (q : RF M r s σ) {i : Nat} {v : Va} {x : V} (z : RV M r v x) : RF M r (s.set i (some v)) (σ.set i (some x)) := by
  refine ⟨by rw [List.length_set, List.length_set, q.1], fun j w e => ?_⟩
  by_cases hj : i = j
  · subst hj
    by_cases hl : i < s.length
    · rw [List.getElem?_set_self hl] at e
      cases e
      exact ⟨x, List.getElem?_set_self (by rw [← q.1]; exact hl), z⟩
    · rw [List.getElem?_eq_none (by rw [List.length_set]; omega)] at e
      cases e
  · rw [List.getElem?_set_ne hj] at e
    rw [List.getElem?_set_ne hj]
    exact q.2 j w e
/-- a slot forgotten -/
theorem RF.drop {s : Fr} {σ : L2.St} (q : RF M r s σ) {i : Nat} {o : Option V} : RF M r (s.set i none) (σ.set i o) := by
  refine ⟨by rw [List.length_set, List.length_set, q.1], fun j w e => ?_⟩
  by_cases hj : i = j
  · subst hj
    by_cases hl : i < s.length
    · rw [List.getElem?_set_self hl] at e
      cases e
    · rw [List.getElem?_eq_none (by rw [List.length_set]; omega)] at e
      cases e
  · rw [List.getElem?_set_ne hj] at e
    rw [List.getElem?_set_ne hj]
    exact q.2 j w e
theorem RVs.get {vs : List Va} {xs : List V} (q : RVs M r vs xs) : ∀ {i : Nat} {v : Va}, vs[i]? = some v → ∃ x, xs[i]? = some x ∧ RV M r v x := by
  induction q with
  | nil =>
    intro i v e
    cases e
  | cons z t ih =>
    intro i v e
    cases i with
    | zero =>
      cases e
      exact ⟨_, rfl, z⟩
    | succ j => exact ih e
theorem pApp {α β : Type} {F : α → β → Prop} {a b : List α} {c d : List β} (p : Paired F a c) (q : Paired F b d) : Paired F (a ++ b) (c ++ d) := by
  induction p with
  | nil => exact q
  | cons z t ih => exact .cons z ih
theorem pSet {α β : Type} {F : α → β → Prop} {a : List α} {c : List β} {x : α} {y : β} (p : Paired F a c) (z : F x y) : ∀ i, Paired F (a.set i x) (c.set i y) := by
  induction p with
  | nil =>
    intro i
    exact .nil
  | cons w t ih =>
    intro i
    cases i with
    | zero => exact .cons z t
    | succ j => exact .cons w (ih j)
theorem pTake {α β : Type} {F : α → β → Prop} {a : List α} {c : List β} (p : Paired F a c) : ∀ i, Paired F (a.take i) (c.take i) := by
  induction p with
  | nil =>
    intro i
    rw [List.take_nil, List.take_nil]
    exact .nil
  | cons w t ih =>
    intro i
    cases i with
    | zero => exact .nil
    | succ j => exact .cons w (ih j)
theorem pDrop {α β : Type} {F : α → β → Prop} {a : List α} {c : List β} (p : Paired F a c) : ∀ i, Paired F (a.drop i) (c.drop i) := by
  induction p with
  | nil =>
    intro i
    rw [List.drop_nil, List.drop_nil]
    exact .nil
  | cons w t ih =>
    intro i
    cases i with
    | zero => exact .cons w t
    | succ j => exact ih j
theorem pGet {α β : Type} {F : α → β → Prop} {a : List α} {c : List β} (p : Paired F a c) : ∀ {i : Nat} {x : α}, a[i]? = some x → ∃ y, c[i]? = some y ∧ F x y := by
  induction p with
  | nil =>
    intro i v e
    cases e
  | cons z t ih =>
    intro i v e
    cases i with
    | zero =>
      cases e
      exact ⟨_, rfl, z⟩
    | succ j => exact ih e
theorem pRev {α β : Type} {F : α → β → Prop} {a : List α} {c : List β} (p : Paired F a c) : Paired F a.reverse c.reverse := by
  induction p with
  | nil => exact .nil
  | cons z t ih =>
    rw [List.reverse_cons, List.reverse_cons]
    exact pApp ih (.cons z .nil)

section
variable {h h' h2 : Hv} {H H' H2 : Hp}
theorem Emb.get (E : Emb M r h H) {a : Nat} {o : Ob} (e : h.get a = some o) : ∃ p u, r[a]? = some p ∧ H p = some u ∧ RO M r o u := E.at_ a o e
theorem tabs_keep {T : List (Addr × Str)} {H H' : Hp} (t : LamX.Tabs T H) (e : ∀ b o, H b = some o → ((∃ ps, o = .tbl ps) ∨ ∃ f, o = .ext f) → H' b = some o) : LamX.Tabs T H' := fun p hp => by
  obtain ⟨ps, h1, h2, h3⟩ := t p hp
  refine ⟨ps, e _ _ h1 (.inl ⟨ps, rfl⟩), h2, fun pos cv hc => ?_⟩
  obtain ⟨c, e1, e2⟩ := h3 pos cv hc
  exact ⟨c, e1, e _ _ e2 (.inr ⟨_, rfl⟩)⟩
theorem Gro.refl (E : Emb M r h H) : Gro M r H h r H := ⟨List.prefix_refl _, E, fun _ a b => absurd a b, fun _ _ e _ _ => e, fun _ _ _ e => e, fun t => t⟩
theorem Gro.trans (a : Gro M r H h' r' H') (b : Gro M r' H' h2 r2 H2) : Gro M r H h2 r2 H2 where
  pre := a.pre.trans b.pre
  emb := b.emb
  new := fun p hp hn => by
    by_cases q : p ∈ r'
    · exact a.new p q hn
    · intro u e
      by_cases t : ∃ ps, u = .tbl ps
      · exact t
      · exact b.new p hp q u (a.fre p u e hn fun ps z => t ⟨ps, z⟩)
  fre := fun p u e hn ht => by
    have q : p ∉ r' := fun z => let ⟨ps, k⟩ := a.new p z hn u e; ht ps k
    exact b.fre p u (a.fre p u e hn ht) q ht
  frz := fun p ob u e => b.frz p ob u (a.frz p ob u e)
  tab := fun t => b.tab (a.tab t)
/-- something untracked by the small heap is laid: r stays -/
theorem Emb.laid (E : Emb M r h H) {p : Addr} {u : HO} (hp : H p = none) : Gro M r H h r (upd H p u) where
  pre := List.prefix_refl _
  emb := ⟨E.len, E.nd, fun q hq => by
    obtain ⟨v, e, nt⟩ := E.tr q hq
    exact ⟨v, by rw [upd_ne (ne_of_none e hp)]; exact e, nt⟩, fun a o e => by
    obtain ⟨q, v, e1, e2, z⟩ := E.at_ a o e
    refine ⟨q, v, e1, ?_, z⟩
    rw [upd_ne (ne_of_none e2 hp)]
    exact e2, tabs_keep E.tab fun b o e _ => (upd_ne (ne_of_none e hp)).trans e⟩
  new := fun _ a b => absurd a b
  fre := fun q v e _ _ => (upd_ne (ne_of_none e hp)).trans e
  frz := fun q ob v e => (upd_ne (ne_of_none e hp)).trans e
  tab := fun t => tabs_keep t fun b o e _ => (upd_ne (ne_of_none e hp)).trans e
theorem get_last (r : List Addr) (p : Addr) : (r ++ [p])[r.length]? = some p := by
  rw [List.getElem?_append_right (Nat.le_refl _), Nat.sub_self]
  rfl
/-- a new place -/
theorem Emb.notin (E : Emb M r h H) {p : Addr} (hp : H p = none) : p ∉ r := fun z => by
  obtain ⟨u, e, _⟩ := E.tr p z
  rw [hp] at e
  cases e
theorem Emb.alloc (E : Emb M r h H) {p : Addr} {o : Ob} {u : HO} (hp : H p = none) (z0 : RO M (r ++ [p]) o u) : Gro M r H (h.new o) (r ++ [p]) (upd H p u) where
  pre := List.prefix_append _ _
  emb := ⟨by rw [List.length_append, E.len]; rfl, List.nodup_append.mpr ⟨E.nd, List.nodup_cons.mpr ⟨by simp, List.nodup_nil⟩, fun a ha b hb e => by
      rw [List.mem_singleton.mp hb] at e
      exact E.notin hp (e ▸ ha)⟩, fun q hq => by
    rcases List.mem_append.mp hq with z | z
    · obtain ⟨v, e, nt⟩ := E.tr q z
      exact ⟨v, by rw [upd_ne (ne_of_none e hp)]; exact e, nt⟩
    · rw [List.mem_singleton.mp z]
      exact ⟨u, upd_same, z0.no⟩, fun a o' e => by
    rw [Hv.get_new] at e
    by_cases q : a = h.n
    · rw [if_pos q] at e
      cases e
      refine ⟨p, u, ?_, upd_same, z0⟩
      rw [q, ← E.len]
      exact get_last r p
    · rw [if_neg q] at e
      obtain ⟨p', v, e1, e2, z'⟩ := E.at_ a o' e
      refine ⟨p', v, pre_get (List.prefix_append _ _) e1, ?_, z'.mono (List.prefix_append _ _)⟩
      rw [upd_ne (ne_of_none e2 hp)]
      exact e2, tabs_keep E.tab fun b o e _ => (upd_ne (ne_of_none e hp)).trans e⟩
  new := fun q hq hn => by
    rcases List.mem_append.mp hq with z | z
    · exact absurd z hn
    · rw [List.mem_singleton.mp z]
      intro u e
      rw [hp] at e
      cases e
  fre := fun q v e _ _ => (upd_ne (ne_of_none e hp)).trans e
  frz := fun q ob v e => (upd_ne (ne_of_none e hp)).trans e
  tab := fun t => tabs_keep t fun b o e _ => (upd_ne (ne_of_none e hp)).trans e
/-- two new places at once -/
theorem Emb.alloc2 (E : Emb M r h H) {p q : Addr} {o o2 : Ob} {u u2 : HO} (hp : H p = none) (hq : H q = none) (ne : q ≠ p) (z : RO M (r ++ [p, q]) o u) (z2 : RO M (r ++ [p, q]) o2 u2) : Gro M r H ((h.new o).new o2) (r ++ [p, q]) (upd (upd H p u) q u2) where
  pre := List.prefix_append _ _
  emb := ⟨by rw [List.length_append, E.len]; rfl, List.nodup_append.mpr ⟨E.nd, List.nodup_cons.mpr ⟨by simpa using Ne.symm ne, List.nodup_cons.mpr ⟨by simp, List.nodup_nil⟩⟩, fun a ha b hb e => by
      rcases List.mem_cons.mp hb with k | k
      · rw [k] at e
        exact E.notin hp (e ▸ ha)
      · rw [List.mem_singleton.mp k] at e
        exact E.notin hq (e ▸ ha)⟩, fun b hb => by
    by_cases c : b = q
    · exact ⟨u2, by rw [c]; exact upd_same, z2.no⟩
    · rw [upd_ne c]
      by_cases c2 : b = p
      · exact ⟨u, by rw [c2]; exact upd_same, z.no⟩
      · rw [upd_ne c2]
        rcases List.mem_append.mp hb with k | k
        · exact E.tr b k
        · rcases List.mem_cons.mp k with k | k
          · exact absurd k c2
          · exact absurd (List.mem_singleton.mp k) c, fun a o' e => by
    have e0 : (h.new o).n = h.n + 1 := rfl
    rw [Hv.get_new, e0] at e
    by_cases c : a = h.n + 1
    · rw [if_pos c] at e
      cases e
      refine ⟨q, u2, ?_, upd_same, z2⟩
      rw [c, ← E.len, List.getElem?_append_right (Nat.le_succ _), show r.length.succ - r.length = 1 by omega]
      rfl
    · rw [if_neg c, Hv.get_new] at e
      by_cases c2 : a = h.n
      · rw [if_pos c2] at e
        cases e
        refine ⟨p, u, ?_, by rw [upd_ne (Ne.symm ne)]; exact upd_same, z⟩
        rw [c2, ← E.len, List.getElem?_append_right (Nat.le_refl _), Nat.sub_self]
        rfl
      · rw [if_neg c2] at e
        obtain ⟨p', v, e1, e2, z'⟩ := E.at_ a o' e
        refine ⟨p', v, pre_get (List.prefix_append _ _) e1, ?_, z'.mono (List.prefix_append _ _)⟩
        rw [upd_ne (ne_of_none e2 hq), upd_ne (ne_of_none e2 hp)]
        exact e2, tabs_keep E.tab fun b o e _ => ((upd_ne (ne_of_none e hq)).trans (upd_ne (ne_of_none e hp))).trans e⟩
  new := fun b hb hn => by
    rcases List.mem_append.mp hb with k | k
    · exact absurd k hn
    · rcases List.mem_cons.mp k with k | k
      · rw [k]
        intro u e
        rw [hp] at e
        cases e
      · rw [List.mem_singleton.mp k]
        intro u e
        rw [hq] at e
        cases e
  fre := fun b v e _ _ => ((upd_ne (ne_of_none e hq)).trans (upd_ne (ne_of_none e hp))).trans e
  frz := fun b ob v e => ((upd_ne (ne_of_none e hq)).trans (upd_ne (ne_of_none e hp))).trans e
  tab := fun t => tabs_keep t fun b o e _ => ((upd_ne (ne_of_none e hq)).trans (upd_ne (ne_of_none e hp))).trans e
theorem nodup_get {r : List Addr} (nd : r.Nodup) {a b : Nat} {p : Addr} (ea : r[a]? = some p) (eb : r[b]? = some p) : a = b := by
  obtain ⟨la, ea⟩ := List.getElem?_eq_some_iff.mp ea
  obtain ⟨lb, eb⟩ := List.getElem?_eq_some_iff.mp eb
  have q := List.pairwise_iff_getElem.mp nd
  rcases Nat.lt_trichotomy a b with l | l | l
  · exact absurd (ea.trans eb.symm) (q a b la lb l)
  · exact l
  · exact absurd (eb.trans ea.symm) (q b a lb la l)
/-- a thing that may be written -/
def Pl : HO → Prop
  | .lst _ => True
  | .dK _ => True
  | .dT _ => True
  | .ins _ _ _ => True
  | _ => False
/-- .. or a locked one -/
def Pk : HO → Prop
  | .frz _ _ => True
  | o => Pl o
theorem Pl.k : ∀ {u : HO}, Pl u → Pk u
  | .lst _, h => h
  | .dK _, h => h
  | .dT _, h => h
  | .ins _ _ _, h => h
  | .frz _ _, _ => True.intro
/-- the embedding behind a write -/
theorem pl_keep {H : Hp} {p : Addr} {u0 u : HO} (h0 : H p = some u0) (pl : Pk u0) : ∀ b ob, H b = some ob → ((∃ ps, ob = .tbl ps) ∨ ∃ f, ob = .ext f) → upd H p u b = some ob := fun b ob eq hk => (upd_ne fun c => by
    rw [c, h0] at eq
    cases eq
    rcases hk with ⟨ps, k⟩ | ⟨f, k⟩ <;> subst k <;> exact pl).trans eq
theorem Emb.put (E : Emb M r h H) {a : Nat} {p : Addr} {o : Ob} {u u0 : HO} (e : r[a]? = some p) (h0 : H p = some u0) (pl : Pk u0) (z : RO M r o u) : Emb M r (h.set a o) (upd H p u) :=
  ⟨E.len, E.nd, fun q hq => by
    by_cases c : q = p
    · exact ⟨u, by rw [c]; exact upd_same, z.no⟩
    · obtain ⟨v, e, nt⟩ := E.tr q hq
      exact ⟨v, by rw [upd_ne c]; exact e, nt⟩, fun b o' eb => by
    rw [Hv.get_set] at eb
    by_cases q : b = a
    · rw [if_pos q] at eb
      cases eb
      exact ⟨p, u, by rw [q]; exact e, upd_same, z⟩
    · rw [if_neg q] at eb
      obtain ⟨p', v, e1, e2, z'⟩ := E.at_ b o' eb
      refine ⟨p', v, e1, ?_, z'⟩
      rw [upd_ne fun c : p' = p => q (nodup_get E.nd e1 (by rw [c]; exact e))]
      exact e2, tabs_keep E.tab (pl_keep h0 pl)⟩
theorem Emb.set (E : Emb M r h H) {a : Nat} {p : Addr} {o : Ob} {u u0 : HO} (e : r[a]? = some p) (h0 : H p = some u0) (pl : Pl u0) (z : RO M r o u) : Gro M r H (h.set a o) r (upd H p u) where
  pre := List.prefix_refl _
  emb := E.put e h0 pl.k z
  new := fun _ a b => absurd a b
  fre := fun q v eq hn _ => (upd_ne fun c => hn (by rw [c]; exact List.mem_of_getElem? e)).trans eq
  frz := fun q ob v eq => (upd_ne fun c => by
    rw [c, h0] at eq
    cases eq
    exact pl).trans eq
  tab := fun t => tabs_keep t fun b ob eq hk => (upd_ne fun c => by
    rw [c, h0] at eq
    cases eq
    rcases hk with ⟨ps, k⟩ | ⟨f, k⟩ <;> subst k <;> exact pl).trans eq
/-- a thing unlocked -/
theorem Gro.unlock {a : Nat} {p : Addr} {o : Ob} {od : Obj} {u : HO} (e : r[a]? = some p) (h0 : H p = some u) (pl : Pl u) (z : RO M r o u) (g : Gro M r (upd H p (.frz od u)) h2 r2 H2) : Gro M r H (h2.set a o) r2 (upd H2 p u) where
  pre := g.pre
  emb := g.emb.put (pre_get g.pre e) (g.frz p od u upd_same) True.intro (z.mono g.pre)
  new := fun q hq hn => by
    have := g.new q hq hn
    rwa [upd_ne fun c : q = p => hn (by rw [c]; exact List.mem_of_getElem? e)] at this
  fre := fun q v eq hn ht => by
    have c : q ≠ p := fun c => hn (by rw [c]; exact List.mem_of_getElem? e)
    rw [upd_ne c]
    exact g.fre q v ((upd_ne c).trans eq) hn ht
  frz := fun q ob v eq => by
    have c : q ≠ p := fun c => by
      rw [c, h0] at eq
      cases eq
      exact pl
    rw [upd_ne c]
    exact g.frz q ob v ((upd_ne c).trans eq)
  tab := fun t => by
    have hz : H2 p = some (.frz od u) := g.frz p od u upd_same
    refine tabs_keep (g.tab (tabs_keep t fun b ob eq hk => (upd_ne fun c => ?_).trans eq)) fun b ob eq hk => (upd_ne fun c => ?_).trans eq
    · rw [c, h0] at eq
      cases eq
      rcases hk with ⟨ps, k⟩ | ⟨f, k⟩ <;> subst k <;> exact pl
    · rw [c, hz] at eq
      cases eq
      rcases hk with ⟨ps, k⟩ | ⟨f, k⟩ <;> cases k
end
end
end MP
set_option linter.all false
set_option maxRecDepth 100000
set_option maxHeartbeats 4000000
/-! What the small language says of the layer's judgements: readings by results. -/
namespace MP
open PySem L2

/-- a result's continuation: from (r, H) -/
def Cn {α β : Type} (M : Wd) (E : XK) (r : List Addr) (H : Hp) (x : Rs α) (R : List Addr → α → β → Prop) (Q : β → Hp → Prop) : Prop := match x with
  | .ok v h' => ∀ r' y H', Gro M r H h' r' H' → R r' v y → Q y H'
  | .ex c fs h' => ∀ r' H' d ys, Gro M r H h' r' H' → RFs M r' fs ys → H' d = some (.xd ys) → E (.ref (M.ca c)) (some d) H'
  | .no => False
section
variable {α β γ δ : Type} {M : Wd} {E : XK} {r r' : List Addr} {H H' : Hp} {h h' : Hv} {R : List Addr → α → β → Prop} {R2 : List Addr → γ → δ → Prop}
theorem Cn.mono {x : Rs α} {Q Q' : β → Hp → Prop} (q : Cn M E r H x R Q) (i : ∀ y H, Q y H → Q' y H) : Cn M E r H x R Q' := by
  cases x with
  | ok v h => exact fun r' y H' g z => i _ _ (q r' y H' g z)
  | ex c fs h => exact q
  | no => exact q
/-- from a later state -/
theorem Cn.later {x : Rs α} {Q : β → Hp → Prop} (g : Gro M r H h' r' H') (q : Cn M E r H x R Q) : Cn M E r' H' x R Q := by
  cases x with
  | ok v h => exact fun r2 y H2 g2 z => q r2 y H2 (g.trans g2) z
  | ex c fs h => exact fun r2 H2 d ys g2 z e => q r2 H2 d ys (g.trans g2) z e
  | no => exact q
theorem Cn.bind {x : Rs α} {k : α → Hv → Rs γ} {Q : δ → Hp → Prop} (q : Cn M E r H (x.bind k) R2 Q) : Cn M E r H x R fun y H1 => ∃ r1 v h1, Gro M r H h1 r1 H1 ∧ R r1 v y ∧ Cn M E r1 H1 (k v h1) R2 Q := by
  cases x with
  | ok v h => exact fun r1 y H1 g z => ⟨r1, v, h, g, z, q.later g⟩
  | ex c fs h => exact q
  | no => exact q
theorem Cn.ok {v : α} {Q : β → Hp → Prop} {y : β} (q : Cn M E r H (.ok v h) R Q) (e : Emb M r h H) (z : R r v y) : Q y H := q r y H (Gro.refl e) z
theorem Cn.okG {v : α} {Q : β → Hp → Prop} {y : β} (q : Cn M E r H (.ok v h') R Q) (g : Gro M r H h' r' H') (z : R r' v y) : Q y H' := q r' y H' g z
/-- a new object -/
theorem Cn.new {o : Ob} {Q : V → Hp → Prop} (q : Cn M E r H (newOb o h) (RV M) Q) (e : Emb M r h H) {p : Addr} {u : HO} (hp : H p = none) (z : RO M (r ++ [p]) o u) : Q (.ref p) (upd H p u) :=
  q (r ++ [p]) (.ref p) _ (e.alloc hp z) ⟨p, by rw [← e.len]; exact get_last r p, rfl⟩
theorem Cn.gd {b : Bool} {x : Rs α} {Q : β → Hp → Prop} (q : Cn M E r H (gd b x) R Q) : b = true ∧ Cn M E r H x R Q := by
  cases b with
  | true => exact ⟨rfl, q⟩
  | false => exact q.elim
end

/-- the slots' wish at σ -/
abbrev XAt (W : WX) (σ : L2.St) : XK := fun c d H => W c d σ H
/-- an expression, a test, an argument list: by what the small language makes of it -/
def tF (M : Wd) (W : WX) (f : Fr → Hv → Rs Va) : TE := fun σ H Q => ∃ r s h, RF M r s σ ∧ Emb M r h H ∧ Cn M (XAt W σ) r H (f s h) (RV M) Q
def tFT (M : Wd) (W : WX) (f : Fr → Hv → Rs Bool) : TT := fun σ H Q => ∃ r s h, RF M r s σ ∧ Emb M r h H ∧ Cn M (XAt W σ) r H (f s h) (fun _ a b => b = a) Q
def tFA (M : Wd) (W : WX) (f : Fr → Hv → Rs (List Va)) : TA := fun σ H Q => ∃ r s h, RF M r s σ ∧ Emb M r h H ∧ Cn M (XAt W σ) r H (f s h) (RVs M) Q

section
variable {X : Cx} {M : Wd} {W : WX}
theorem PE.imp {e : Expr} {t t' : TE} (p : PE X e t) (i : ∀ σ H Q, t' σ H Q → t σ H Q) : PE X e t' := ⟨fun pins s σ H Q I h => p.run pins s σ H Q I (i σ H Q h)⟩
theorem PT.imp {e : Expr} {t t' : TT} (p : PT X e t) (i : ∀ σ H Q, t' σ H Q → t σ H Q) : PT X e t' := ⟨fun pins s σ H Q I h => p.run pins s σ H Q I (i σ H Q h)⟩
theorem PA.imp {e : List Expr} {t t' : TA} (p : PA X e t) (i : ∀ σ H Q, t' σ H Q → t σ H Q) : PA X e t' := ⟨fun pos pins s σ H Q I h => p.run pos pins s σ H Q I (i σ H Q h)⟩

/-- one expression behind: the reading of the first, then the rest -/
theorem tF.step {f : Fr → Hv → Rs Va} {α β : Type} {R : List Addr → α → β → Prop} {k : Va → Hv → Rs α} {r : List Addr} {s : Fr} {h : Hv} {σ : L2.St} {H : Hp} {Q : β → Hp → Prop} {Q' : VK} (hs : RF M r s σ) (he : Emb M r h H)
    (q : Cn M (XAt W σ) r H ((f s h).bind k) R Q) (i : ∀ r1 v h1 y H1, Gro M r H h1 r1 H1 → RF M r1 s σ → Emb M r1 h1 H1 → RV M r1 v y → Cn M (XAt W σ) r1 H1 (k v h1) R Q → Q' y H1) : tF M W f σ H Q' :=
  ⟨r, s, h, hs, he, q.bind.mono fun y H1 ⟨r1, v, h1, g, z, q1⟩ => i r1 v h1 y H1 g (hs.mono g.pre) g.emb z q1⟩
theorem tFT.step {f : Fr → Hv → Rs Bool} {α β : Type} {R : List Addr → α → β → Prop} {k : Bool → Hv → Rs α} {r : List Addr} {s : Fr} {h : Hv} {σ : L2.St} {H : Hp} {Q : β → Hp → Prop} {Q' : Bool → Hp → Prop} (hs : RF M r s σ) (he : Emb M r h H)
    (q : Cn M (XAt W σ) r H ((f s h).bind k) R Q) (i : ∀ r1 v h1 H1, Gro M r H h1 r1 H1 → RF M r1 s σ → Emb M r1 h1 H1 → Cn M (XAt W σ) r1 H1 (k v h1) R Q → Q' v H1) : tFT M W f σ H Q' :=
  ⟨r, s, h, hs, he, q.bind.mono fun y H1 ⟨r1, v, h1, g, z, q1⟩ => by
    subst z
    exact i r1 y h1 H1 g (hs.mono g.pre) g.emb q1⟩
theorem tFA.step {f : Fr → Hv → Rs (List Va)} {α β : Type} {R : List Addr → α → β → Prop} {k : List Va → Hv → Rs α} {r : List Addr} {s : Fr} {h : Hv} {σ : L2.St} {H : Hp} {Q : β → Hp → Prop} {Q' : List V → Hp → Prop} (hs : RF M r s σ) (he : Emb M r h H)
    (q : Cn M (XAt W σ) r H ((f s h).bind k) R Q) (i : ∀ r1 v h1 y H1, Gro M r H h1 r1 H1 → RF M r1 s σ → Emb M r1 h1 H1 → RVs M r1 v y → Cn M (XAt W σ) r1 H1 (k v h1) R Q → Q' y H1) : tFA M W f σ H Q' :=
  ⟨r, s, h, hs, he, q.bind.mono fun y H1 ⟨r1, v, h1, g, z, q1⟩ => i r1 v h1 y H1 g (hs.mono g.pre) g.emb z q1⟩

/-! ### reading -/
theorem Emb.rd {r : List Addr} {h : Hv} {H : Hp} (E : Emb M r h H) {a : Nat} {o : Ob} (e : h.rd a = some o) : ∃ p u, r[a]? = some p ∧ Rd H p u ∧ RO M r o u := by
  unfold Hv.rd at e
  cases q : h.get a with
  | none =>
    rw [q] at e
    cases e
  | some x =>
    obtain ⟨p, u, e1, e2, z⟩ := E.at_ a x q
    rw [q] at e
    cases x with
    | frz o' =>
      cases e
      obtain ⟨ob, v, rfl, z⟩ := z
      exact ⟨p, v, e1, Or.inr ⟨ob, e2⟩, z⟩
    | lst xs => cases e; exact ⟨p, u, e1, Or.inl e2, z⟩
    | tup xs => cases e; exact ⟨p, u, e1, Or.inl e2, z⟩
    | dct xs => cases e; exact ⟨p, u, e1, Or.inl e2, z⟩
    | dtu xs => cases e; exact ⟨p, u, e1, Or.inl e2, z⟩
    | ins c xs => cases e; exact ⟨p, u, e1, Or.inl e2, z⟩
    | exo a c d => cases e; exact ⟨p, u, e1, Or.inl e2, z⟩
    | exd a xs => cases e; exact ⟨p, u, e1, Or.inl e2, z⟩
/-- a list at a value's place -/
theorem rd_lst {r : List Addr} {h : Hv} {H : Hp} (E : Emb M r h H) {a : Nat} {xs : List Va} {y : V} (e : h.rd a = some (.lst xs)) (z : RV M r (.ref a) y) (K : PySem.W.Frag) : ∃ p ys, y = .ref p ∧ r[a]? = some p ∧ SqL K H p ys ∧ RVs M r xs ys := by
  obtain ⟨p, u, e1, e2, ys, rfl, q⟩ := E.rd e
  obtain ⟨p', e3, rfl⟩ := z
  rw [e1] at e3
  cases e3
  exact ⟨p, ys, rfl, e1, Or.inl e2, q⟩
theorem rd_tup {r : List Addr} {h : Hv} {H : Hp} (E : Emb M r h H) {a : Nat} {xs : List Va} {y : V} (e : h.rd a = some (.tup xs)) (z : RV M r (.ref a) y) (K : PySem.W.Frag) : ∃ p ys, y = .ref p ∧ r[a]? = some p ∧ SqT K H p ys ∧ RVs M r xs ys := by
  obtain ⟨p, u, e1, e2, ys, rfl, q⟩ := E.rd e
  obtain ⟨p', e3, rfl⟩ := z
  rw [e1] at e3
  cases e3
  exact ⟨p, ys, rfl, e1, Or.inl e2, q⟩
theorem bnd_line {n : Nat} (h : Nat.ble n Bnd = true) : n ≤ sizeLine := by
  have h1 := Nat.le_of_ble_eq_true h
  rw [sizeLine_eq]
  unfold Bnd at h1
  omega
theorem bnd_lt {n : Nat} (h : Nat.blt n Bnd = true) : n < sizeLine := by
  have h1 := Nat.le_of_ble_eq_true h
  rw [sizeLine_eq]
  unfold Bnd at h1
  omega
theorem i64_ok {i : Int} (h : i64 i = true) : -(2 ^ 64) < i ∧ i < 2 ^ 64 := by
  unfold i64 at h
  rw [Bool.and_eq_true] at h
  have h1 := of_decide_eq_true h.1
  have h2 := of_decide_eq_true h.2
  exact ⟨by omega, by omega⟩
theorem str_len (x : List Nat) : (⟨x.toArray⟩ : Str).length = x.length := by
  show x.toArray.size = _
  simp
theorem str_app (x y : List Nat) : (⟨x.toArray⟩ : Str) ++ ⟨y.toArray⟩ = (⟨(x ++ y).toArray⟩ : Str) := by
  show Str.mk _ = _
  simp

/-! ### names and constants -/
theorem se_var {i : Nat} {x : Str} {pos : Pos} (hN : X.N[i]? = some x) (hv : Vis X.env.scope x) (h1 : (x == ("__debug__" : Str)) = false) (h2 : (x == ("__classdict__" : Str)) = false) : PE X (.Name x pos) (tF M W fun s h => getV s i h) :=
  PE.imp (pe_var hN hv h1 h2) fun σ H Q ⟨r, s, h, hs, he, q⟩ => by
    have q : Cn M (XAt W σ) r H (getV s i h) (RV M) Q := q
    unfold getV at q
    cases e : s[i]? with
    | none =>
      rw [e] at q
      exact q.elim
    | some o =>
      rw [e] at q
      cases o with
      | none => exact q.elim
      | some v =>
        obtain ⟨y, e1, z⟩ := hs.get e
        exact ⟨y, e1, q.ok he z⟩
theorem se_cst {v : Va} {y : V} {e : Expr} (p : PE X e (tC y)) (z : RV M [] v y) : PE X e (tF M W fun _ h => .ok v h) :=
  PE.imp p fun σ H Q ⟨r, s, h, hs, he, q⟩ => q.ok he (z.mono (List.nil_prefix))

/-! ### operators -/
/-- an operation of two values: what the layer asks follows from the small result -/
def OpS (M : Wd) (r2 : R2) (g : Va → Va → Hv → Rs Va) : Prop :=
  ∀ (E : XK) (r : List Addr) (h : Hv) (H : Hp) (v w : Va) (x y : V) (Q : VK), Emb M r h H → RV M r v x → RV M r w y → Cn M E r H (g v w h) (RV M) Q → r2 x y H Q
theorem se_op {op : Operator} {r2 : R2} {g : Va → Va → Hv → Rs Va} {a b : Expr} {fa fb : Fr → Hv → Rs Va} {pos : Pos} (ho : OpR X (binaryOp op) r2) (hg : OpS M r2 g) (ha : PE X a (tF M W fa)) (hb : PE X b (tF M W fb)) :
    PE X (.BinOp a op b pos) (tF M W fun s h => (fa s h).bind fun x h1 => (fb s h1).bind fun y h2 => g x y h2) :=
  PE.imp (pe_op ho ha hb) fun σ H Q ⟨r, s, h, hs, he, q⟩ => tF.step hs he q fun r1 v h1 y H1 g1 hs1 he1 z1 q1 => tF.step hs1 he1 q1 fun r2 w h2 y2 H2 g2 hs2 he2 z2 q2 => hg _ r2 h2 H2 v w y y2 Q he2 (z1.mono g2.pre) z2 q2

/-! ### the operators one by one -/
theorem RV.int {r : List Addr} {i : Int} {x : V} (z : RV M r (.int i) x) : x = .int i := z
theorem ints_of {r : List Addr} {v w : Va} {x y : V} {E : XK} {h : Hv} {H : Hp} {Q : VK} {g : Int → Int → Rs Va} (z1 : RV M r v x) (z2 : RV M r w y)
    (q : Cn M E r H (match v, w with
      | .int i, .int j => g i j
      | _, _ => Rs.no) (RV M) Q) : ∃ i j, x = .int i ∧ y = .int j ∧ Cn M E r H (g i j) (RV M) Q := by
  cases v with
  | int i =>
    cases w with
    | int j => exact ⟨i, j, z1, z2, q⟩
    | _ => exact q.elim
  | _ => exact q.elim
theorem s_sub : OpS M (rI0 fun i j => .int (i - j)) (opBin .sub) := fun E r h H v w x y Q he z1 z2 q => by
  obtain ⟨i, j, e1, e2, q⟩ := ints_of (g := fun i j => .ok (.int (i - j)) h) z1 z2 (h := h) (by cases v <;> cases w <;> exact q)
  exact ⟨i, j, e1, e2, q.ok he rfl⟩
end
end MP
set_option linter.all false
set_option maxRecDepth 100000
set_option maxHeartbeats 4000000
/-! The operators. -/
namespace MP
open PySem L2
section
variable {X : Cx} {M : Wd} {W : WX} {E : XK} {r : List Addr} {h : Hv} {H : Hp}
theorem get_lst (e0 : Emb M r h H) {a : Nat} {xs : List Va} {y : V} (e : h.get a = some (.lst xs)) (z : RV M r (.ref a) y) : ∃ p ys, y = .ref p ∧ r[a]? = some p ∧ H p = some (.lst ys) ∧ RVs M r xs ys := by
  obtain ⟨p, u, e1, e2, ys, rfl, q⟩ := e0.at_ a _ e
  obtain ⟨p', e3, rfl⟩ := z
  rw [e1] at e3
  cases e3
  exact ⟨p, ys, rfl, e1, e2, q⟩
theorem get_tup (e0 : Emb M r h H) {a : Nat} {xs : List Va} {y : V} (e : h.get a = some (.tup xs)) (z : RV M r (.ref a) y) : ∃ p ys, y = .ref p ∧ r[a]? = some p ∧ H p = some (.tup ys) ∧ RVs M r xs ys := by
  obtain ⟨p, u, e1, e2, ys, rfl, q⟩ := e0.at_ a _ e
  obtain ⟨p', e3, rfl⟩ := z
  rw [e1] at e3
  cases e3
  exact ⟨p, ys, rfl, e1, e2, q⟩
theorem RVs.pre {p : Addr} {xs : List Va} {ys : List V} (q : RVs M r xs ys) : RVs M (r ++ [p]) xs ys := q.mono (List.prefix_append _ _)

def rAddA (K : PySem.W.Frag) : R2 := fun x y H Q => (rI0 (fun i j => .int (i + j)) x y H Q ∨ (∃ i j, x = .str i ∧ y = .str j ∧ i.length + j.length ≤ sizeLine ∧ Q (.str (i ++ j)) H)) ∨ (rCat x y H Q ∨ rCatA K x y H Q)
theorem o_add : OpR X (binaryOp .Add) (rAddA X.K) := OpR.or (OpR.or op_add op_add_str) (OpR.or op_cat op_catA)
theorem s_add (K : PySem.W.Frag) : OpS M (rAddA K) (opBin .add) := fun E r h H v w x y Q he z1 z2 q => by
  cases v with
  | int i =>
    cases w with
    | int j => exact .inl (.inl ⟨i, j, z1, z2, q.ok he rfl⟩)
    | _ => exact q.elim
  | str a =>
    cases w with
    | str b =>
      obtain ⟨hb, q⟩ := Cn.gd (x := Rs.ok (Va.str (a ++ b)) h) q
      refine .inl (.inr ⟨_, _, z1, z2, by rw [str_len, str_len]; exact bnd_line hb, ?_⟩)
      rw [str_app]
      exact q.ok he rfl
    | _ => exact q.elim
  | ref a =>
    cases w with
    | ref b =>
      have q : Cn M E r H (match h.get a, h.get b with
        | some (.lst xs), some (.lst ys) => MP.gd (Nat.ble (xs.length + ys.length) Bnd) (newOb (.lst (xs ++ ys)) h)
        | some (.tup xs), some (.tup ys) => MP.gd (Nat.ble (xs.length + ys.length) Bnd) (match xs, ys with
          | [], _ => .ok (.ref b) h
          | _ :: _, [] => .ok (.ref a) h
          | _ :: _, _ :: _ => newOb (.tup (xs ++ ys)) h)
        | _, _ => .no) (RV M) Q := q
      split at q
      · rename_i xs ys e1 e2
        obtain ⟨hb, q⟩ := q.gd
        obtain ⟨p1, ys1, rfl, _, h1, l1⟩ := get_lst he e1 z1
        obtain ⟨p2, ys2, rfl, _, h2, l2⟩ := get_lst he e2 z2
        refine .inr (.inl ⟨p1, p2, ys1, ys2, rfl, rfl, h1, h2, by rw [← l1.length, ← l2.length]; exact bnd_line hb, fun p hp => ?_⟩)
        exact q.new he hp ⟨_, rfl, pApp l1.pre l2.pre⟩
      · rename_i xs ys e1 e2
        obtain ⟨hb, q⟩ := q.gd
        obtain ⟨p1, ys1, rfl, w1, h1, l1⟩ := get_tup he e1 z1
        obtain ⟨p2, ys2, rfl, w2, h2, l2⟩ := get_tup he e2 z2
        refine .inr (.inr ⟨p1, p2, ys1, ys2, rfl, rfl, SqT.of h1, SqT.of h2, by rw [← l1.length, ← l2.length]; exact bnd_line hb, fun n1 => ?_, fun n1 n2 => ?_, fun n1 n2 p hp => ?_⟩)
        · subst n1
          cases l1
          exact q.ok he z2
        · subst n2
          cases l2
          cases l1 with
          | nil => exact absurd rfl n1
          | cons _ _ => exact q.ok he z1
        · cases l1 with
          | nil => exact absurd rfl n1
          | cons a1 b1 =>
            cases l2 with
            | nil => exact absurd rfl n2
            | cons a2 b2 => exact Cn.new q he hp ⟨_, rfl, pApp (RVs.pre (.cons a1 b1)) (RVs.pre (.cons a2 b2))⟩
      · exact q.elim
    | _ => exact q.elim
  | _ => exact q.elim
def rMulA : R2 := fun x y H Q => rI CMul (fun i j => .int (i * j)) x y H Q ∨ rRep x y H Q
theorem o_mul : OpR X (binaryOp .Mult) rMulA := OpR.or op_mul op_rep
theorem s_mul : OpS M rMulA (opBin .mul) := fun E r h H v w x y Q he z1 z2 q => by
  cases v with
  | int i =>
    cases w with
    | int j =>
      obtain ⟨hb, q⟩ := Cn.gd (x := Rs.ok (Va.int (i * j)) h) q
      refine .inl ⟨i, j, z1, z2, ?_, q.ok he rfl⟩
      rcases Bool.or_eq_true_iff.mp hb with k | k
      · exact .inl (i64_ok k)
      · exact .inr (i64_ok k)
    | _ => exact q.elim
  | ref a =>
    cases w with
    | int j =>
      have q : Cn M E r H (match h.get a with
        | some (.lst xs) => MP.gd (i64 j && decide (-1000000 < j) && decide (j < 1000000) && Nat.ble (xs.length * j.toNat) Bnd) (newOb (.lst (List.replicate j.toNat xs).flatten) h)
        | _ => .no) (RV M) Q := q
      split at q
      · rename_i xs e1
        obtain ⟨hb, q⟩ := q.gd
        obtain ⟨p1, ys1, rfl, _, h1, l1⟩ := get_lst he e1 z1
        simp only [Bool.and_eq_true, decide_eq_true_eq] at hb
        refine .inr ⟨p1, j, ys1, rfl, z2, h1, by omega, by omega, by rw [← l1.length]; exact bnd_line hb.2, fun p hp => ?_⟩
        refine q.new he hp ⟨_, rfl, ?_⟩
        have go : ∀ n : Nat, RVs M (r ++ [p]) (List.replicate n xs).flatten (List.replicate n ys1).flatten := fun n => by
          induction n with
          | zero => exact .nil
          | succ n ih =>
            rw [List.replicate_succ, List.replicate_succ, List.flatten_cons, List.flatten_cons]
            exact pApp l1.pre ih
        exact go _
      · exact q.elim
    | _ => exact q.elim
  | _ => exact q.elim
theorem s_fdv : OpS M (rI CDivN fun i j => .int (i.fdiv j)) (opBin .fdv) := fun E r h H v w x y Q he z1 z2 q => by
  cases v with
  | int i =>
    cases w with
    | int j =>
      obtain ⟨hb, q⟩ := Cn.gd (x := Rs.ok (Va.int (i.fdiv j)) h) q
      simp only [Bool.and_eq_true, decide_eq_true_eq] at hb
      exact ⟨i, j, z1, z2, hb, q.ok he rfl⟩
    | _ => exact q.elim
  | _ => exact q.elim
theorem s_mod : OpS M (rI (fun _ j => j ≠ 0) fun i j => .int (i.fmod j)) (opBin .mod) := fun E r h H v w x y Q he z1 z2 q => by
  cases v with
  | int i =>
    cases w with
    | int j =>
      obtain ⟨hb, q⟩ := Cn.gd (x := Rs.ok (Va.int (i.fmod j)) h) q
      exact ⟨i, j, z1, z2, of_decide_eq_true hb, q.ok he rfl⟩
    | _ => exact q.elim
  | _ => exact q.elim
theorem s_pow : OpS M (rI CPow fun i j => .int (i ^ j.toNat)) (opBin .pow) := fun E r h H v w x y Q he z1 z2 q => by
  cases v with
  | int i =>
    cases w with
    | int j =>
      obtain ⟨hb, q⟩ := Cn.gd (x := Rs.ok (Va.int (i ^ j.toNat)) h) q
      simp only [Bool.and_eq_true, decide_eq_true_eq] at hb
      have k := i64_ok hb.2
      exact ⟨i, j, z1, z2, ⟨hb.1.1, by omega, by omega⟩, q.ok he rfl⟩
    | _ => exact q.elim
  | _ => exact q.elim
/-- which raw operator -/
def bOp : BO → Operator
  | .add => .Add
  | .sub => .Sub
  | .mul => .Mult
  | .fdv => .FloorDiv
  | .mod => .Mod
  | .pow => .Pow
theorem se_bin (o : BO) {a b : Expr} {fa fb : Fr → Hv → Rs Va} {pos : Pos} (ha : PE X a (tF M W fa)) (hb : PE X b (tF M W fb)) :
    PE X (.BinOp a (bOp o) b pos) (tF M W fun s h => (fa s h).bind fun x h1 => (fb s h1).bind fun y h2 => opBin o x y h2) := by
  cases o with
  | add => exact se_op o_add (s_add X.K) ha hb
  | sub => exact se_op op_sub s_sub ha hb
  | mul => exact se_op o_mul s_mul ha hb
  | fdv => exact se_op op_fdivN s_fdv ha hb
  | mod => exact se_op op_modN s_mod ha hb
  | pow => exact se_op op_pow s_pow ha hb
end
end MP
set_option linter.all false
set_option maxRecDepth 100000
set_option maxHeartbeats 4000000
/-! Comparisons, subscripts, slices, truth. -/
namespace MP
open PySem L2
section
variable {X : Cx} {M : Wd} {W : WX} {E : XK} {r : List Addr} {h : Hv} {H : Hp} {K : PySem.W.Frag}

/-! ### data as trees -/
def toPD : DT → PyData
  | .non => .none
  | .bl b => .bool b
  | .int i => .int i
  | .str x => .str ⟨x.toArray⟩
  | .lst xs => .list (toPDs xs)
  | .tup xs => .tuple (toPDs xs)
where toPDs : List DT → List PyData
  | [] => []
  | x :: xs => toPD x :: toPDs xs
theorem toPDs_map : ∀ xs : List DT, toPD.toPDs xs = xs.map toPD
  | [] => rfl
  | x :: xs => by
    show toPD x :: toPD.toPDs xs = _
    rw [toPDs_map xs]
    rfl
theorem mapO_some {α β : Type} {f : α → Option β} : ∀ {xs : List α} {ys : List β}, mapO f xs = some ys → Paired (fun x y => f x = some y) xs ys
  | [], ys, e => by
    cases e
    exact .nil
  | x :: xs, ys, e => by
    have e : (match f x with
      | none => none
      | some y => match mapO f xs with
        | none => none
        | some ys => some (y :: ys)) = some ys := e
    cases q : f x with
    | none =>
      rw [q] at e
      cases e
    | some y =>
      rw [q] at e
      cases q2 : mapO f xs with
      | none =>
        rw [q2] at e
        cases e
      | some zs =>
        rw [q2] at e
        cases e
        exact .cons q (mapO_some q2)
theorem depthAll_le {n : Nat} : ∀ {ds : List PyData}, (∀ d ∈ ds, d.depth ≤ n) → PyData.depthAll ds ≤ n
  | [], _ => Nat.zero_le _
  | d :: ds, h => by
    show max d.depth (PyData.depthAll ds) ≤ n
    have h1 := h d (List.mem_cons_self ..)
    have h2 := depthAll_le (n := n) (ds := ds) fun x hx => h x (List.mem_cons_of_mem _ hx)
    omega
theorem canLayAll {ds : List PyData} (h : ∀ d ∈ ds, d.canLay0 = true) : PyData.canLayAll0 ds = true := by
  induction ds with
  | nil => rfl
  | cons d ds ih =>
    show (d.canLay0 && PyData.canLayAll0 ds) = true
    rw [h d (List.mem_cons_self ..), ih fun x hx => h x (List.mem_cons_of_mem _ hx)]
    rfl
theorem dpAll_of {xs : List Va} {ys : List V} {ds : List DT} {f : Va → Option DT} (e : Paired (fun x y => f x = some y) xs ds) : RVs M r xs ys → (∀ x y d, RV M r x y → f x = some d → Dp K H y (toPD d)) → DpAll K H ys (ds.map toPD) := by
  induction e generalizing ys with
  | nil =>
    intro q _
    cases q
    exact .nil
  | cons a b ih =>
    intro q g
    cases q with
    | cons z t => exact .cons (g _ _ _ z a) (ih t g)
theorem paired_mem {α β : Type} {F : α → β → Prop} {a : List α} {b : List β} (p : Paired F a b) : ∀ y ∈ b, ∃ x, F x y := by
  induction p with
  | nil =>
    intro y hy
    cases hy
  | cons z t ih =>
    intro y hy
    rcases List.mem_cons.mp hy with e | e
    · exact ⟨_, e ▸ z⟩
    · exact ih y e
/-- what is read is there -/
theorem rdD_ok (e0 : Emb M r h H) : ∀ (n : Nat) {v : Va} {y : V} {d : DT}, RV M r v y → rdD n h v = some d → Dp K H y (toPD d) ∧ (toPD d).canLay0 = true ∧ (toPD d).depth ≤ n
  | 0, _, _, _, _, e => by cases e
  | n + 1, v, y, d, z, e => by
    cases v with
    | non =>
      cases e
      cases z
      exact ⟨.non, rfl, Nat.zero_le _⟩
    | bl b =>
      cases e
      cases z
      exact ⟨.bl b, rfl, Nat.zero_le _⟩
    | int i =>
      cases e
      cases z
      exact ⟨.int i, rfl, Nat.zero_le _⟩
    | str x =>
      have e : (match x.all fun c => Nat.blt c 1114112 with
        | true => some (DT.str x)
        | false => none) = some d := e
      cases q : x.all fun c => Nat.blt c 1114112 with
      | false =>
        rw [q] at e
        cases e
      | true =>
        rw [q] at e
        cases e
        cases z
        refine ⟨.str _, ?_, Nat.zero_le _⟩
        show Array.all x.toArray (fun c => decide (c < 0x110000)) = true
        simp only [List.all_toArray]
        rw [List.all_eq_true] at q ⊢
        intro c hc
        have := Nat.le_of_ble_eq_true (q c hc)
        exact decide_eq_true (by omega)
    | tok k => cases e
    | ref a =>
      have e : (match h.rd a with
        | some (.lst xs) => (mapO (rdD n h) xs).map .lst
        | some (.tup xs) => (mapO (rdD n h) xs).map .tup
        | _ => none) = some d := e
      split at e
      · rename_i xs q
        obtain ⟨ds, e1, rfl⟩ := Option.map_eq_some_iff.mp e
        obtain ⟨p, ys, rfl, _, hl, ls⟩ := rd_lst e0 q z K
        have pr := mapO_some e1
        have all : ∀ d ∈ ds.map toPD, d.canLay0 = true ∧ d.depth ≤ n := fun d hd => by
          obtain ⟨t, ht, rfl⟩ := List.mem_map.mp hd
          have ⟨i, hi⟩ := List.getElem_of_mem ht
          obtain ⟨hi, ei⟩ := hi
          have go : ∀ {xs : List Va} {ds : List DT} {ys : List V}, Paired (fun x y => rdD n h x = some y) xs ds → RVs M r xs ys → ∀ t ∈ ds, (toPD t).canLay0 = true ∧ (toPD t).depth ≤ n := fun {xs ds ys} p => by
            induction p generalizing ys with
            | nil =>
              intro _ t ht
              cases ht
            | cons a b ih =>
              intro q t ht
              cases q with
              | cons z1 z2 =>
                rcases List.mem_cons.mp ht with c | c
                · subst c
                  exact (rdD_ok e0 n z1 a).2
                · exact ih z2 t c
          exact go pr ls t ht
        refine ⟨?_, ?_, ?_⟩
        · show Dp K H (.ref p) (.list (toPD.toPDs ds))
          rw [toPDs_map]
          exact .lst hl (dpAll_of pr ls fun x y d z1 e1 => (rdD_ok e0 n z1 e1).1)
        · show PyData.canLayAll0 (toPD.toPDs ds) = true
          rw [toPDs_map]
          exact canLayAll fun d hd => (all d hd).1
        · show PyData.depthAll (toPD.toPDs ds) + 1 ≤ n + 1
          rw [toPDs_map]
          exact Nat.succ_le_succ (depthAll_le fun d hd => (all d hd).2)
      · rename_i xs q
        obtain ⟨ds, e1, rfl⟩ := Option.map_eq_some_iff.mp e
        obtain ⟨p, ys, rfl, _, hl, ls⟩ := rd_tup e0 q z K
        have pr := mapO_some e1
        have all : ∀ d ∈ ds.map toPD, d.canLay0 = true ∧ d.depth ≤ n := fun d hd => by
          obtain ⟨t, ht, rfl⟩ := List.mem_map.mp hd
          have go : ∀ {xs : List Va} {ds : List DT} {ys : List V}, Paired (fun x y => rdD n h x = some y) xs ds → RVs M r xs ys → ∀ t ∈ ds, (toPD t).canLay0 = true ∧ (toPD t).depth ≤ n := fun {xs ds ys} p => by
            induction p generalizing ys with
            | nil =>
              intro _ t ht
              cases ht
            | cons a b ih =>
              intro q t ht
              cases q with
              | cons z1 z2 =>
                rcases List.mem_cons.mp ht with c | c
                · subst c
                  exact (rdD_ok e0 n z1 a).2
                · exact ih z2 t c
          exact go pr ls t ht
        refine ⟨?_, ?_, ?_⟩
        · show Dp K H (.ref p) (.tuple (toPD.toPDs ds))
          rw [toPDs_map]
          exact .tup hl (dpAll_of pr ls fun x y d z1 e1 => (rdD_ok e0 n z1 e1).1)
        · show PyData.canLayAll0 (toPD.toPDs ds) = true
          rw [toPDs_map]
          exact canLayAll fun d hd => (all d hd).1
        · show PyData.depthAll (toPD.toPDs ds) + 1 ≤ n + 1
          rw [toPDs_map]
          exact Nat.succ_le_succ (depthAll_le fun d hd => (all d hd).2)
      · cases e
    | fn f => cases e
    | cl c => cases e
theorem eqN_ok : ∀ x y : List Nat, eqN x y = decide (x = y)
  | [], [] => rfl
  | [], _ :: _ => rfl
  | _ :: _, [] => rfl
  | a :: x, b :: y => by
    show (Nat.beq a b && eqN x y) = _
    rw [eqN_ok x y]
    cases e : Nat.beq a b with
    | true =>
      have := Nat.eq_of_beq_eq_true e
      subst this
      simp
    | false =>
      have := Nat.ne_of_beq_eq_false e
      simp [this]
theorem strBeq (x y : List Nat) : ((⟨x.toArray⟩ : Str) == ⟨y.toArray⟩) = decide (x = y) := by
  rw [Bool.eq_iff_iff]
  simp
theorem allT_ok {n : Nat} (ih : ∀ d e, (toPD d).depth < n → eqT n d e = PyData.eqv (toPD d) (toPD e)) : ∀ xs ys : List DT, (∀ d ∈ xs, (toPD d).depth < n) → allT (eqT n) xs ys = PyData.eqvAll (toPD.toPDs xs) (toPD.toPDs ys)
  | [], [], _ => rfl
  | [], _ :: _, _ => rfl
  | _ :: _, [], _ => rfl
  | d :: xs, e :: ys, q => by
    show (eqT n d e && allT (eqT n) xs ys) = (PyData.eqv (toPD d) (toPD e) && PyData.eqvAll (toPD.toPDs xs) (toPD.toPDs ys))
    rw [ih d e (q d (List.mem_cons_self ..)), allT_ok ih xs ys fun d hd => q d (List.mem_cons_of_mem _ hd)]
theorem mem_depth {d : DT} : ∀ {xs : List DT}, d ∈ xs → (toPD d).depth ≤ PyData.depthAll (toPD.toPDs xs)
  | [], h => by cases h
  | x :: xs, h => by
    show _ ≤ max (toPD x).depth (PyData.depthAll (toPD.toPDs xs))
    rcases List.mem_cons.mp h with c | c
    · subst c
      omega
    · have := mem_depth (xs := xs) c
      omega
theorem eqT_ok : ∀ (n : Nat) (d e : DT), (toPD d).depth < n → eqT n d e = PyData.eqv (toPD d) (toPD e)
  | 0, _, _, h => absurd h (Nat.not_lt_zero _)
  | n + 1, d, e, h => by
    cases d with
    | non => cases e <;> rfl
    | bl a =>
      cases e with
      | bl b => rfl
      | int j =>
        show decide (b2n a = j) = ((if a = true then 1 else 0) == j)
        rw [Bool.eq_iff_iff]
        cases a <;> exact ⟨fun e => beq_iff_eq.mpr (of_decide_eq_true e), fun e => decide_eq_true (beq_iff_eq.mp e)⟩
      | _ => rfl
    | int i =>
      cases e with
      | bl b =>
        show decide (i = b2n b) = (i == (if b = true then 1 else 0))
        rw [Bool.eq_iff_iff]
        cases b <;> exact ⟨fun e => beq_iff_eq.mpr (of_decide_eq_true e), fun e => decide_eq_true (beq_iff_eq.mp e)⟩
      | int j =>
        show decide (i = j) = (i == j)
        rw [Bool.eq_iff_iff]
        simp
      | _ => rfl
    | str x =>
      cases e with
      | str y =>
        show eqN x y = ((⟨x.toArray⟩ : Str) == ⟨y.toArray⟩)
        rw [eqN_ok, strBeq]
      | _ => rfl
    | lst xs =>
      cases e with
      | lst ys =>
        have hd : PyData.depthAll (toPD.toPDs xs) < n := Nat.lt_of_succ_lt_succ h
        exact allT_ok (fun d e q => eqT_ok n d e q) xs ys fun d hm => Nat.lt_of_le_of_lt (mem_depth hm) hd
      | _ => rfl
    | tup xs =>
      cases e with
      | tup ys =>
        have hd : PyData.depthAll (toPD.toPDs xs) < n := Nat.lt_of_succ_lt_succ h
        exact allT_ok (fun d e q => eqT_ok n d e q) xs ys fun d hm => Nat.lt_of_le_of_lt (mem_depth hm) hd
      | _ => rfl
end
end MP
set_option linter.all false
set_option maxRecDepth 100000
set_option maxHeartbeats 4000000
/-! Comparisons, membership, subscripts, slices. -/
namespace MP
open PySem L2
section
variable {X : Cx} {M : Wd} {W : WX} {E : XK} {r : List Addr} {h : Hv} {H : Hp} {K : PySem.W.Frag}
theorem shaped_of {d : DT} (h : (toPD d).canLay0 = true ∧ (toPD d).depth ≤ dep) : SeqAt.shaped (toPD d) = true := by
  unfold SeqAt.shaped
  have : dep = 60 := rfl
  rw [h.1, Bool.true_and]
  exact decide_eq_true (by omega)
theorem opEqD_ok (he : Emb M r h H) {v w : Va} {x y : V} (z1 : RV M r v x) (z2 : RV M r w y) {b : Bool} (e : opEqD v w h = some b) : ∃ d e', Dp K H x d ∧ Dp K H y e' ∧ SeqAt.shaped d = true ∧ SeqAt.shaped e' = true ∧ b = PyData.eqv d e' := by
  unfold opEqD at e
  cases e1 : rdD dep h v with
  | none =>
    rw [e1] at e
    cases e
  | some d =>
    cases e2 : rdD dep h w with
    | none =>
      rw [e1, e2] at e
      cases e
    | some d2 =>
      rw [e1, e2] at e
      cases e
      have k1 := rdD_ok (K := K) he dep z1 e1
      have k2 := rdD_ok (K := K) he dep z2 e2
      exact ⟨_, _, k1.1, k2.1, shaped_of k1.2, shaped_of k2.2, eqT_ok dep1 d d2 (Nat.lt_succ_of_le k1.2.2)⟩
theorem tok_lay {z : Str} (h : (z.cps.toList.all fun c => Nat.blt c 1114112) = true) : SeqAt.shaped (.str z) = true := by
  unfold SeqAt.shaped
  have q : (PyData.str z).canLay0 = true := by
    show Array.all z.cps (fun c => decide (c < 0x110000)) = true
    rw [← Array.all_toList, List.all_eq_true]
    intro c hc
    have := Nat.le_of_ble_eq_true (List.all_eq_true.mp h c hc)
    exact decide_eq_true (by omega)
  rw [q]
  rfl
/-- two lists of unlike lengths -/
def rLenNe (K : PySem.W.Frag) (b : Bool) : R2 := fun x y H Q => ∃ a c xs ys, x = .ref a ∧ y = .ref c ∧ SqL K H a xs ∧ SqL K H c ys ∧ xs.length ≠ ys.length ∧ Q (.bl b) H
theorem sizes_ne {xs ys : List V} {is js : List Value} (r1 : Vals xs is) (r2 : Vals ys js) (n : xs.length ≠ ys.length) : (is.toArray.size != js.toArray.size) = true := by
  have e1 := r1.length
  have e2 := r2.length
  simp only [List.size_toArray, bne_iff_ne, ne_eq]
  omega
theorem isL_of {h : Heap} {a : Addr} {its : Array Value} (q : PlainL h a its) : h.IsList a its := by
  obtain ⟨o, n, h1, h2, _, h3⟩ := q
  exact ⟨o, h1, h2, n, h3⟩
theorem op_lenEq (hu : X.A.units < cLine) : OpR X (compareOp .Eq) (rLenNe X.K false) := by
  intro pins s σ H x y v u Q I rx ry h
  obtain ⟨a, c, xs, ys, rfl, rfl, h1, h2, n, q⟩ := h
  obtain ⟨is, k1, l1, _⟩ := I.list h1
  obtain ⟨js, k2, l2, _⟩ := I.list h2
  cases rx
  cases ry
  exact SeqAt.RcAt.lists_lengths (isL_of l1) (isL_of l2) (sizes_ne k1 k2 n) hu _ _ _ _ ⟨.bl _, H, I, rfl, q⟩
theorem op_lenNe (hu : X.A.units < cLine) : OpR X (compareOp .NotEq) (rLenNe X.K true) := by
  intro pins s σ H x y v u Q I rx ry h
  obtain ⟨a, c, xs, ys, rfl, rfl, h1, h2, n, q⟩ := h
  obtain ⟨is, k1, l1, _⟩ := I.list h1
  obtain ⟨js, k2, l2, _⟩ := I.list h2
  cases rx
  cases ry
  exact SeqAt.RcNeAt.lists_lengths (isL_of l1) (isL_of l2) (sizes_ne k1 k2 n) hu _ _ _ _ ⟨.bl _, H, I, rfl, q⟩
def EqW (K : PySem.W.Frag) (H : Hp) (x y : V) (b : Bool) : Prop := (∃ d e', Dp K H x d ∧ Dp K H y e' ∧ SeqAt.shaped d = true ∧ SeqAt.shaped e' = true ∧ b = PyData.eqv d e') ∨ (b = false ∧ ∃ a c xs ys, x = .ref a ∧ y = .ref c ∧ SqL K H a xs ∧ SqL K H c ys ∧ xs.length ≠ ys.length)
theorem lenNe_ok (he : Emb M r h H) {v w : Va} {x y : V} (z1 : RV M r v x) (z2 : RV M r w y) (e : lenNe v w h = true) : ∃ a c xs ys, x = .ref a ∧ y = .ref c ∧ SqL K H a xs ∧ SqL K H c ys ∧ xs.length ≠ ys.length := by
  unfold lenNe at e
  split at e
  · rename_i a b
    split at e
    · rename_i xs ys e1 e2
      obtain ⟨p, ps, rfl, _, k1, r1⟩ := rd_lst he e1 z1 K
      obtain ⟨q, qs, rfl, _, k2, r2⟩ := rd_lst he e2 z2 K
      refine ⟨p, q, ps, qs, rfl, rfl, k1, k2, fun n => ?_⟩
      have l1 := Paired.length r1
      have l2 := Paired.length r2
      have : Nat.beq xs.length ys.length = true := by
        rw [l1, l2, n]
        exact Nat.beq_refl _
      rw [this] at e
      cases e
    · cases e
  · cases e
theorem opEq_ok (he : Emb M r h H) {v w : Va} {x y : V} (z1 : RV M r v x) (z2 : RV M r w y) {b : Bool} (e : opEq v w h = some b) : EqW K H x y b := by
  have main (e : (match lenNe v w h with
    | true => some false
    | false => opEqD v w h) = some b) : EqW K H x y b := by
    cases e1 : lenNe v w h with
    | true =>
      rw [e1] at e
      cases e
      exact .inr ⟨rfl, lenNe_ok he z1 z2 e1⟩
    | false =>
      rw [e1] at e
      exact .inl (opEqD_ok he z1 z2 e)
  cases v with
  | tok i =>
    cases w with
    | tok j =>
      obtain ⟨hi, rfl⟩ := z1
      obtain ⟨hj, rfl⟩ := z2
      have e : Nat.beq i j = b := Option.some.inj e
      refine .inl ⟨.str (M.tk i), .str (M.tk j), .str _, .str _, tok_lay (M.tlay i hi), tok_lay (M.tlay j hj), ?_⟩
      rw [← e]
      show _ = decide (M.tk i = M.tk j)
      rw [Bool.eq_iff_iff, decide_eq_true_iff]
      exact ⟨fun q => by rw [Nat.eq_of_beq_eq_true q], fun q => by rw [M.tinj i j hi hj q]; exact Nat.beq_refl j⟩
    | _ => cases e
  | _ => exact main e
theorem Cn.bl {x : Rs Bool} {Q : VK} (q : Cn M E r H (MP.bl x) (RV M) Q) : ∃ b h', x = .ok b h' ∧ Cn M E r H (.ok (Va.bl b) h') (RV M) Q ∨ ∃ c f h', x = .ex c f h' := by
  cases x with
  | ok b h' => exact ⟨b, h', .inl ⟨rfl, q⟩⟩
  | ex c f h' => exact ⟨true, h', .inr ⟨c, f, h', rfl⟩⟩
  | no => exact q.elim
theorem toB_ok {o : Option Bool} {Q : VK} (he : Emb M r h H) (q : Cn M E r H (MP.bl (toB o h)) (RV M) Q) : ∃ b, o = some b ∧ Q (.bl b) H := by
  cases o with
  | none => exact q.elim
  | some b => exact ⟨b, rfl, Cn.ok (v := Va.bl b) q he rfl⟩
abbrev CmS (M : Wd) (r2 : R2) (o : CO) : Prop := OpS M r2 fun x y h => bl (opCmp o x y h)
def rEqW (K : PySem.W.Frag) : R2 := fun x y H Q => rEqD K x y H Q ∨ rLenNe K false x y H Q
def rNeW (K : PySem.W.Frag) : R2 := fun x y H Q => rNeD K x y H Q ∨ rLenNe K true x y H Q
theorem s_eq (K : PySem.W.Frag) : CmS M (rEqW K) .eq := fun E r h H v w x y Q he z1 z2 q => by
  obtain ⟨b, e, q⟩ := toB_ok he q
  rcases opEq_ok (K := K) he z1 z2 e with ⟨d, e', k1, k2, s1, s2, rfl⟩ | ⟨rfl, a, c, xs, ys, k1, k2, k3, k4, k5⟩
  · exact .inl ⟨d, e', k1, k2, s1, s2, q⟩
  · exact .inr ⟨a, c, xs, ys, k1, k2, k3, k4, k5, q⟩
theorem s_ne (K : PySem.W.Frag) : CmS M (rNeW K) .ne := fun E r h H v w x y Q he z1 z2 q => by
  obtain ⟨b, e, q⟩ := toB_ok he q
  obtain ⟨b', e5, rfl⟩ := Option.map_eq_some_iff.mp e
  rcases opEq_ok (K := K) he z1 z2 e5 with ⟨d, e', k1, k2, s1, s2, rfl⟩ | ⟨rfl, a, c, xs, ys, k1, k2, k3, k4, k5⟩
  · exact .inl ⟨d, e', k1, k2, s1, s2, q⟩
  · exact .inr ⟨a, c, xs, ys, k1, k2, k3, k4, k5, q⟩
theorem ltS_ok : ∀ x y : List Nat, ltS x y = decide (x < y)
  | [], [] => by simp [ltS]
  | [], b :: y => by simp [ltS]
  | a :: x, [] => by simp [ltS]
  | a :: x, b :: y => by
    unfold ltS
    rw [ltS_ok x y, Bool.eq_iff_iff, decide_eq_true_iff]
    cases e : Nat.blt a b with
    | true =>
      have h1 : a < b := Nat.le_of_ble_eq_true e
      simp [List.cons_lt_cons_iff, h1]
    | false =>
      have h1 : ¬ a < b := fun k => by
        rw [show Nat.blt a b = true from Nat.ble_eq_true_of_le k] at e
        cases e
      simp only [Bool.and_eq_true, decide_eq_true_eq, List.cons_lt_cons_iff]
      constructor
      · intro ⟨k1, k2⟩
        exact .inr ⟨Nat.eq_of_beq_eq_true k1, k2⟩
      · rintro (k | ⟨k1, k2⟩)
        · exact absurd k h1
        · exact ⟨by rw [k1]; exact Nat.beq_refl b, k2⟩
def rLtS : R2 := fun x y H Q => rI0 (fun i j => .bl (decide (i < j))) x y H Q ∨ ∃ i j, x = .str i ∧ y = .str j ∧ Q (.bl (decide (i.cps.toList < j.cps.toList))) H
theorem o_lt : OpR X (compareOp .Lt) rLtS := OpR.or op_lt op_lt_str
theorem s_lt : CmS M rLtS .lt := fun E r h H v w x y Q he z1 z2 q => by
  cases v with
  | int i =>
    cases w with
    | int j => exact .inl ⟨i, j, z1, z2, Cn.ok (v := Va.bl (decide (i < j))) q he rfl⟩
    | _ => exact q.elim
  | str a =>
    cases w with
    | str b =>
      have q := Cn.ok (v := Va.bl (ltS a b)) q he rfl
      rw [ltS_ok] at q
      exact .inr ⟨_, _, z1, z2, q⟩
    | _ => exact q.elim
  | _ => exact q.elim
theorem s_le : CmS M (rI0 fun i j => .bl (decide (i ≤ j))) .le := fun E r h H v w x y Q he z1 z2 q => by
  cases v with
  | int i =>
    cases w with
    | int j => exact ⟨i, j, z1, z2, Cn.ok (v := Va.bl (decide (i ≤ j))) q he rfl⟩
    | _ => exact q.elim
  | _ => exact q.elim
theorem s_gt : CmS M (rI0 fun i j => .bl (decide (j < i))) .gt := fun E r h H v w x y Q he z1 z2 q => by
  cases v with
  | int i =>
    cases w with
    | int j => exact ⟨i, j, z1, z2, Cn.ok (v := Va.bl (decide (j < i))) q he rfl⟩
    | _ => exact q.elim
  | _ => exact q.elim
theorem s_ge : CmS M (rI0 fun i j => .bl (decide (j ≤ i))) .ge := fun E r h H v w x y Q he z1 z2 q => by
  cases v with
  | int i =>
    cases w with
    | int j => exact ⟨i, j, z1, z2, Cn.ok (v := Va.bl (decide (j ≤ i))) q he rfl⟩
    | _ => exact q.elim
  | _ => exact q.elim

/-! ### dicts' keys -/
theorem mixK_ok {v : Va} {x : V} {kvs : List (Va × Va)} (z : RV M r v x) (e : mixK v kvs = true) : (∃ k, RKt M v k ∧ x = kV k) ∧ ∀ p ∈ kvs, (isTokV p.1 = true → isStrV v = false) ∧ (isStrV p.1 = true → isTokV v = false) := by
  cases v with
  | int i => exact ⟨⟨.inl i, rfl, z⟩, fun p _ => ⟨fun _ => rfl, fun _ => rfl⟩⟩
  | str s =>
    refine ⟨⟨.inr ⟨s.toArray⟩, rfl, z⟩, fun p hp => ⟨fun q => ?_, fun _ => rfl⟩⟩
    have := List.all_eq_true.mp e p hp
    rw [q] at this
    cases this
  | tok k =>
    refine ⟨⟨.inr (M.tk k), ⟨z.1, rfl⟩, z.2⟩, fun p hp => ⟨fun _ => rfl, fun q => ?_⟩⟩
    have := List.all_eq_true.mp e p hp
    rw [q] at this
    cases this
  | _ => cases e
theorem isK_ok {v : Va} {x : V} (z : RV M r v x) (e : isK v = true) : ∃ k, RK v k ∧ x = kV k := by
  cases v with
  | int i => exact ⟨.inl i, rfl, z⟩
  | str s => exact ⟨.inr ⟨s.toArray⟩, rfl, z⟩
  | _ => cases e
theorem eqK_ok {a b : Va} {k l : Key} (z1 : RK a k) (z2 : RK b l) : eqK a b = decide (k = l) := by
  cases a with
  | int i =>
    cases b with
    | int j =>
      cases z1
      cases z2
      show decide (i = j) = _
      simp
    | str s =>
      cases z1
      cases z2
      rfl
    | _ => exact z2.elim
  | str s =>
    cases b with
    | int j =>
      cases z1
      cases z2
      rfl
    | str t =>
      cases z1
      cases z2
      show eqN s t = _
      rw [eqN_ok]
      simp
    | _ => exact z2.elim
  | _ => exact z1.elim
theorem eqKt_ok {a b : Va} {k l : Key} (z1 : RKt M a k) (z2 : RKt M b l) (m1 : isTokV a = true → isStrV b = false) (m2 : isStrV a = true → isTokV b = false) : eqK a b = decide (k = l) := by
  have key : ∀ {a b : Va} {k l : Key}, RK a k → RK b l → eqK a b = decide (k = l) := fun z1 z2 => eqK_ok z1 z2
  cases a with
  | tok i =>
    obtain ⟨hi, rfl⟩ := z1
    cases b with
    | tok j =>
      obtain ⟨hj, rfl⟩ := z2
      show Nat.beq i j = _
      rw [Bool.eq_iff_iff, decide_eq_true_iff]
      exact ⟨fun q => by rw [Nat.eq_of_beq_eq_true q], fun q => by rw [M.tinj i j hi hj (Sum.inr.inj q)]; exact Nat.beq_refl j⟩
    | int j =>
      cases z2
      rfl
    | str s => cases m1 rfl
    | _ => exact z2.elim
  | int i =>
    cases b with
    | tok j =>
      obtain ⟨hj, rfl⟩ := z2
      cases z1
      rfl
    | _ => exact key z1 z2
  | str s =>
    cases b with
    | tok j => cases m2 rfl
    | _ => exact key z1 z2
  | _ => exact z1.elim
theorem eqKs_ok {as : List Va} {ks : List Key} (z1 : Paired RK as ks) : ∀ {bs : List Va} {ls : List Key}, Paired RK bs ls → eqKs as bs = decide (ks = ls) := by
  induction z1 with
  | nil =>
    intro bs ls z2
    cases z2 <;> rfl
  | cons a t ih =>
    intro bs ls z2
    cases z2 with
    | nil => rfl
    | cons b u =>
      show (eqK _ _ && eqKs _ _) = _
      rw [eqK_ok a b, ih u, Bool.eq_iff_iff]
      simp
abbrev RD (r : List Addr) : Va × Va → Key × V → Prop := fun p q => RKt M p.1 q.1 ∧ RV M r p.2 q.2
abbrev RDT (r : List Addr) : List Va × Va → List Key × V → Prop := fun p q => Paired RK p.1 q.1 ∧ RV M r p.2 q.2
theorem lookK_ok {kvs : List (Va × Va)} {ys : List (Key × V)} {k : Va} {l : Key} (p : Paired (RD (M := M) r) kvs ys) (z : RKt M k l) (mx : ∀ p ∈ kvs, (isTokV p.1 = true → isStrV k = false) ∧ (isStrV p.1 = true → isTokV k = false)) : (lookK k kvs = none ∧ valV ys l = none) ∨ ∃ v x, lookK k kvs = some v ∧ valV ys l = some x ∧ RV M r v x := by
  induction p with
  | nil => exact .inl ⟨rfl, rfl⟩
  | cons a t ih =>
    rename_i x y xs ys
    have e := eqKt_ok a.1 z (mx _ (List.mem_cons_self ..)).1 (mx _ (List.mem_cons_self ..)).2
    have ih := ih fun p hp => mx p (List.mem_cons_of_mem _ hp)
    unfold lookK
    by_cases q : y.1 = l
    · rw [decide_eq_true q] at e
      rw [e]
      exact .inr ⟨_, _, rfl, valV_pos q, a.2⟩
    · rw [decide_eq_false q] at e
      rw [e]
      have : valV (y :: ys) l = valV ys l := by simp [valV, List.find?_cons, q]
      rw [this]
      exact ih
theorem lookT_ok {kvs : List (List Va × Va)} {ys : List (List Key × V)} {k : List Va} {l : List Key} (p : Paired (RDT (M := M) r) kvs ys) (z : Paired RK k l) : (lookT k kvs = none ∧ valV ys l = none) ∨ ∃ v x, lookT k kvs = some v ∧ valV ys l = some x ∧ RV M r v x := by
  induction p with
  | nil => exact .inl ⟨rfl, rfl⟩
  | cons a t ih =>
    rename_i x y xs ys
    have e := eqKs_ok a.1 z
    unfold lookT
    by_cases q : y.1 = l
    · rw [decide_eq_true q] at e
      rw [e]
      exact .inr ⟨_, _, rfl, valV_pos q, a.2⟩
    · rw [decide_eq_false q] at e
      rw [e]
      have : valV (y :: ys) l = valV ys l := by simp [valV, List.find?_cons, q]
      rw [this]
      exact ih
theorem allK_ok {ks : List Va} {xs : List V} (p : RVs M r ks xs) (e : ks.all isK = true) : ∃ ls, Paired RK ks ls ∧ xs = ls.map kV := by
  induction p with
  | nil => exact ⟨[], .nil, rfl⟩
  | cons a t ih =>
    rw [List.all_cons, Bool.and_eq_true] at e
    obtain ⟨l, z, rfl⟩ := isK_ok a e.1
    obtain ⟨ls, zs, rfl⟩ := ih e.2
    exact ⟨l :: ls, .cons z zs, rfl⟩
theorem rd_dct (E : Emb M r h H) {a : Nat} {xs : List (Va × Va)} {y : V} (e : h.rd a = some (.dct xs)) (z : RV M r (.ref a) y) : ∃ p ys, y = .ref p ∧ r[a]? = some p ∧ Rd H p (.dK ys) ∧ Paired (RD (M := M) r) xs ys := by
  obtain ⟨p, u, e1, e2, ys, rfl, q⟩ := E.rd e
  obtain ⟨p', e3, rfl⟩ := z
  rw [e1] at e3
  cases e3
  exact ⟨p, ys, rfl, e1, e2, q⟩
theorem rd_dtu (E : Emb M r h H) {a : Nat} {xs : List (List Va × Va)} {y : V} (e : h.rd a = some (.dtu xs)) (z : RV M r (.ref a) y) : ∃ p ys, y = .ref p ∧ r[a]? = some p ∧ Rd H p (.dT ys) ∧ Paired (RDT (M := M) r) xs ys := by
  obtain ⟨p, u, e1, e2, ys, rfl, q⟩ := E.rd e
  obtain ⟨p', e3, rfl⟩ := z
  rw [e1] at e3
  cases e3
  exact ⟨p, ys, rfl, e1, e2, q⟩

/-! ### in -/
def rDIn : R2 := fun x y H Q => ∃ a o, y = .ref a ∧ DGet H a x o ∧ Q (.bl o.isSome) H
def rDNin : R2 := fun x y H Q => ∃ a o, y = .ref a ∧ DGet H a x o ∧ Q (.bl (!o.isSome)) H
theorem o_din (hu : X.A.units + 64 < cLine) : OpR X (compareOp .In) rDIn := by
  intro pins s σ H x y v u Q I rx ry h
  obtain ⟨a, o, rfl, g, q⟩ := h
  obtain rfl : u = Value.ref a := ry
  exact d_in (by omega) I g rx fun s' I' => ⟨.bl _, H, I', rfl, q⟩
theorem o_dnin (hu : X.A.units + 64 < cLine) : OpR X (compareOp .NotIn) rDNin := by
  intro pins s σ H x y v u Q I rx ry h
  obtain ⟨a, o, rfl, g, q⟩ := h
  obtain rfl : u = Value.ref a := ry
  exact d_notIn (by omega) I g rx fun s' I' => ⟨.bl _, H, I', rfl, q⟩
def rTIn (K : PySem.W.Frag) : R2 := fun x y H Q => ∃ d ds, Dp K H x d ∧ Dp K H y (.tuple ds) ∧ SeqAt.shaped d = true ∧ SeqAt.shaped (.tuple ds) = true ∧ Q (.bl (ds.any fun z => PyData.eqv z d)) H
def rTNin (K : PySem.W.Frag) : R2 := fun x y H Q => ∃ d ds, Dp K H x d ∧ Dp K H y (.tuple ds) ∧ SeqAt.shaped d = true ∧ SeqAt.shaped (.tuple ds) = true ∧ Q (.bl (!ds.any fun z => PyData.eqv z d)) H
theorem o_tin (hu : X.A.units + 65 < cLine) : OpR X (compareOp .In) (rTIn X.K) := by
  intro pins s σ H x y v u Q I rx ry h
  obtain ⟨d, ds, hd, he, sd, se, q⟩ := h
  obtain ⟨as, r1⟩ := Dp.reads I d x v hd rx
  obtain ⟨bs, r2⟩ := Dp.reads I (.tuple ds) y u he ry
  exact SeqAt.in_tuple_reads r2 r1 (SeqAt.canLay_of_shaped se) (SeqAt.canLay_of_shaped sd) (PyProof.Rows.room_in_shaped sd hu) ⟨.bl _, H, I, rfl, q⟩
theorem o_tnin (hu : X.A.units + 65 < cLine) : OpR X (compareOp .NotIn) (rTNin X.K) := by
  intro pins s σ H x y v u Q I rx ry h
  obtain ⟨d, ds, hd, he, sd, se, q⟩ := h
  obtain ⟨as, r1⟩ := Dp.reads I d x v hd rx
  obtain ⟨bs, r2⟩ := Dp.reads I (.tuple ds) y u he ry
  exact SeqAt.notIn_tuple_reads r2 r1 (SeqAt.canLay_of_shaped se) (SeqAt.canLay_of_shaped sd) (PyProof.Rows.room_in_shaped sd hu) ⟨.bl _, H, I, rfl, q⟩
/-- the four ways of x in y, g the answer's way -/
def In4 (K : PySem.W.Frag) (x y : V) (H : Hp) (b : Bool) : Prop :=
  (∃ (c : Nat) (z : Str), x = .str ⟨#[c]⟩ ∧ y = .str z ∧ b = decide (c ∈ z.cps.toList)) ∨
  (∃ d ds, Dp K H x d ∧ Dp K H y (.list ds) ∧ SeqAt.shaped d = true ∧ SeqAt.shaped (.list ds) = true ∧ b = ds.any fun z => PyData.eqv z d) ∨
  (∃ d ds, Dp K H x d ∧ Dp K H y (.tuple ds) ∧ SeqAt.shaped d = true ∧ SeqAt.shaped (.tuple ds) = true ∧ b = ds.any fun z => PyData.eqv z d) ∨
  ∃ a o, y = .ref a ∧ DGet H a x o ∧ b = o.isSome
def rIn4 (K : PySem.W.Frag) : R2 := fun x y H Q => ∃ b, In4 K x y H b ∧ Q (.bl b) H
def rNin4 (K : PySem.W.Frag) : R2 := fun x y H Q => ∃ b, In4 K x y H b ∧ Q (.bl (!b)) H
theorem o_in (hu : X.A.units + 65 < cLine) : OpR X (compareOp .In) (rIn4 X.K) := by
  intro pins s σ H x y v u Q I rx ry h
  obtain ⟨b, (⟨c, z, e1, e2, rfl⟩ | ⟨d, ds, k1, k2, k3, k4, rfl⟩ | ⟨d, ds, k1, k2, k3, k4, rfl⟩ | ⟨a, o, k1, k2, rfl⟩), q⟩ := h
  · exact op_in_sign pins s σ H x y v u Q I rx ry ⟨c, z, e1, e2, q⟩
  · exact op_inD hu pins s σ H x y v u Q I rx ry ⟨d, ds, k1, k2, k3, k4, q⟩
  · exact o_tin hu pins s σ H x y v u Q I rx ry ⟨d, ds, k1, k2, k3, k4, q⟩
  · exact o_din (by omega) pins s σ H x y v u Q I rx ry ⟨a, o, k1, k2, q⟩
theorem o_nin (hu : X.A.units + 65 < cLine) : OpR X (compareOp .NotIn) (rNin4 X.K) := by
  intro pins s σ H x y v u Q I rx ry h
  obtain ⟨b, (⟨c, z, e1, e2, rfl⟩ | ⟨d, ds, k1, k2, k3, k4, rfl⟩ | ⟨d, ds, k1, k2, k3, k4, rfl⟩ | ⟨a, o, k1, k2, rfl⟩), q⟩ := h
  · exact op_notIn_sign pins s σ H x y v u Q I rx ry ⟨c, z, e1, e2, q⟩
  · exact op_notInD hu pins s σ H x y v u Q I rx ry ⟨d, ds, k1, k2, k3, k4, q⟩
  · exact o_tnin hu pins s σ H x y v u Q I rx ry ⟨d, ds, k1, k2, k3, k4, q⟩
  · exact o_dnin (by omega) pins s σ H x y v u Q I rx ry ⟨a, o, k1, k2, q⟩
theorem any_ok {ds : List DT} {d : DT} (hd : ∀ z ∈ ds, (toPD z).depth ≤ dep) : (ds.any fun z => eqT dep1 z d) = (toPD.toPDs ds).any fun z => PyData.eqv z (toPD d) := by
  induction ds with
  | nil => rfl
  | cons a t ih =>
    show (eqT dep1 a d || t.any _) = (PyData.eqv (toPD a) (toPD d) || (toPD.toPDs t).any _)
    rw [eqT_ok dep1 a d (Nat.lt_succ_of_le (hd a (List.mem_cons_self ..))), ih fun z hz => hd z (List.mem_cons_of_mem _ hz)]
/-- a list's items read -/
theorem rdDs_ok (he : Emb M r h H) {n : Nat} {xs : List Va} {ds : List DT} (p : Paired (fun x y => rdD n h x = some y) xs ds) : ∀ {ys : List V}, RVs M r xs ys → DpAll K H ys (toPD.toPDs ds) ∧ ∀ z ∈ ds, (toPD z).canLay0 = true ∧ (toPD z).depth ≤ n := by
  induction p with
  | nil =>
    intro ys q
    cases q
    exact ⟨.nil, fun z hz => by cases hz⟩
  | cons a t ih =>
    intro ys q
    cases q with
    | cons z1 z2 =>
      obtain ⟨k1, k2⟩ := ih z2
      have k3 := rdD_ok (K := K) he n z1 a
      refine ⟨.cons k3.1 k1, fun z hz => ?_⟩
      rcases List.mem_cons.mp hz with c | c
      · subst c
        exact k3.2
      · exact k2 z c
theorem shapedL {ds : List DT} (h : ∀ z ∈ ds, (toPD z).canLay0 = true ∧ (toPD z).depth ≤ dep) : SeqAt.shaped (.list (toPD.toPDs ds)) = true ∧ SeqAt.shaped (.tuple (toPD.toPDs ds)) = true := by
  have a : PyData.canLayAll0 (toPD.toPDs ds) = true := by
    rw [toPDs_map]
    refine canLayAll fun d hd => ?_
    obtain ⟨t, ht, rfl⟩ := List.mem_map.mp hd
    exact (h t ht).1
  have b : PyData.depthAll (toPD.toPDs ds) ≤ dep := by
    rw [toPDs_map]
    refine depthAll_le fun d hd => ?_
    obtain ⟨t, ht, rfl⟩ := List.mem_map.mp hd
    exact (h t ht).2
  have e : dep = 60 := rfl
  constructor
  · show (PyData.canLayAll0 (toPD.toPDs ds) && decide (PyData.depthAll (toPD.toPDs ds) + 1 ≤ 64)) = true
    rw [a, Bool.true_and]
    exact decide_eq_true (by omega)
  · show (PyData.canLayAll0 (toPD.toPDs ds) && decide (PyData.depthAll (toPD.toPDs ds) + 1 ≤ 64)) = true
    rw [a, Bool.true_and]
    exact decide_eq_true (by omega)
theorem mem_any {t : List Nat} {c : Nat} : (t.any (Nat.beq c)) = decide (c ∈ t) := by
  rw [Bool.eq_iff_iff]
  simp only [List.any_eq_true, decide_eq_true_eq]
  constructor
  · rintro ⟨x, hx, e⟩
    rw [Nat.eq_of_beq_eq_true e]
    exact hx
  · intro hx
    exact ⟨c, hx, Nat.beq_refl c⟩
theorem opIn_ok (K : PySem.W.Frag) (he : Emb M r h H) {v w : Va} {x y : V} (z1 : RV M r v x) (z2 : RV M r w y) {b : Bool} (e : opIn v w h = some b) : In4 K x y H b := by
  cases w with
  | str t =>
    cases v with
    | str s =>
      have e : (match s with
        | [c] => some (t.any (Nat.beq c))
        | _ => none) = some b := by
        unfold opIn at e
        cases s with
        | nil => exact e
        | cons c s =>
          cases s with
          | nil => exact e
          | cons _ _ => exact e
      cases s with
      | nil => cases e
      | cons c s =>
        cases s with
        | nil =>
          cases e
          exact .inl ⟨c, ⟨t.toArray⟩, z1, z2, mem_any⟩
        | cons _ _ => cases e
    | _ => cases e
  | ref a =>
    have e : (match h.rd a with
      | some (.lst xs) => (match rdD dep h v with
        | none => none
        | some d => match mapO (rdD dep h) xs with
          | none => none
          | some ds => some (ds.any fun z => eqT dep1 z d))
      | some (.tup xs) => (match rdD dep h v with
        | none => none
        | some d => match mapO (rdD dep h) xs with
          | none => none
          | some ds => some (ds.any fun z => eqT dep1 z d))
      | some (.dct kvs) => (match (generalizing := false) mixK v kvs with
        | true => some (lookK v kvs).isSome
        | false => none)
      | some (.dtu kvs) => (match (generalizing := false) v with
        | .ref b => (match h.get b with
          | some (.tup ks) => (match ks.all isK with
            | true => some (lookT ks kvs).isSome
            | false => none)
          | _ => none)
        | _ => none)
      | _ => none) = some b := e
    split at e
    · rename_i xs q
      cases e1 : rdD dep h v with
      | none =>
        rw [e1] at e
        cases e
      | some d =>
        cases e2 : mapO (rdD dep h) xs with
        | none =>
          rw [e1, e2] at e
          cases e
        | some ds =>
          rw [e1, e2] at e
          cases e
          obtain ⟨p, ys, rfl, _, hl, ls⟩ := rd_lst he q z2 K
          obtain ⟨k1, k2⟩ := rdDs_ok (K := K) he (mapO_some e2) ls
          have k3 := rdD_ok (K := K) he dep z1 e1
          exact .inr (.inl ⟨toPD d, toPD.toPDs ds, k3.1, .lst hl k1, shaped_of k3.2, (shapedL k2).1, any_ok fun z hz => (k2 z hz).2⟩)
    · rename_i xs q
      cases e1 : rdD dep h v with
      | none =>
        rw [e1] at e
        cases e
      | some d =>
        cases e2 : mapO (rdD dep h) xs with
        | none =>
          rw [e1, e2] at e
          cases e
        | some ds =>
          rw [e1, e2] at e
          cases e
          obtain ⟨p, ys, rfl, _, hl, ls⟩ := rd_tup he q z2 K
          obtain ⟨k1, k2⟩ := rdDs_ok (K := K) he (mapO_some e2) ls
          have k3 := rdD_ok (K := K) he dep z1 e1
          exact .inr (.inr (.inl ⟨toPD d, toPD.toPDs ds, k3.1, .tup hl k1, shaped_of k3.2, (shapedL k2).2, any_ok fun z hz => (k2 z hz).2⟩))
    · rename_i kvs q
      obtain ⟨p, ys, rfl, _, hl, ls⟩ := rd_dct he q z2
      cases e1 : mixK v kvs with
      | false =>
        rw [e1] at e
        cases e
      | true =>
        rw [e1] at e
        cases e
        obtain ⟨⟨l, zk, rfl⟩, mx⟩ := mixK_ok z1 e1
        refine .inr (.inr (.inr ⟨p, valV ys l, rfl, .inl ⟨ys, l, hl, rfl, rfl⟩, ?_⟩))
        rcases lookK_ok ls zk mx with ⟨k1, k2⟩ | ⟨v', x', k1, k2, _⟩
        · rw [k1, k2]
          rfl
        · rw [k1, k2]
          rfl
    · rename_i kvs q
      obtain ⟨p, ys, rfl, _, hl, ls⟩ := rd_dtu he q z2
      cases v with
      | ref c =>
        have e : (match h.get c with
          | some (.tup ks) => (match ks.all isK with
            | true => some (lookT ks kvs).isSome
            | false => none)
          | _ => none) = some b := e
        split at e
        · rename_i ks q2
          cases e1 : ks.all isK with
          | false =>
            rw [e1] at e
            cases e
          | true =>
            rw [e1] at e
            cases e
            obtain ⟨p2, xs2, rfl, _, h2, l2⟩ := get_tup he q2 z1
            obtain ⟨l, zk, rfl⟩ := allK_ok l2 e1
            refine .inr (.inr (.inr ⟨p, valV ys l, rfl, .inr ⟨ys, l, p2, hl, rfl, h2, rfl⟩, ?_⟩))
            rcases lookT_ok ls zk with ⟨k1, k2⟩ | ⟨v', x', k1, k2, _⟩
            · rw [k1, k2]
              rfl
            · rw [k1, k2]
              rfl
        · cases e
      | _ => cases e
    · cases e
  | _ => cases v <;> cases e
theorem s_in (K : PySem.W.Frag) : CmS M (rIn4 K) .isin := fun E r h H v w x y Q he z1 z2 q => by
  obtain ⟨b, e, q⟩ := toB_ok he q
  exact ⟨b, opIn_ok K he z1 z2 e, q⟩
theorem s_nin (K : PySem.W.Frag) : CmS M (rNin4 K) .notin := fun E r h H v w x y Q he z1 z2 q => by
  obtain ⟨b, e, q⟩ := toB_ok he q
  obtain ⟨b', e5, rfl⟩ := Option.map_eq_some_iff.mp e
  exact ⟨b', opIn_ok K he z1 z2 e5, q⟩

/-! ### the comparisons together -/
def cOp : CO → CmpOp
  | .eq => .Eq
  | .ne => .NotEq
  | .lt => .Lt
  | .le => .LtE
  | .gt => .Gt
  | .ge => .GtE
  | .isin => .In
  | .notin => .NotIn
def rC (K : PySem.W.Frag) : CO → R2
  | .eq => rEqW K
  | .ne => rNeW K
  | .lt => rLtS
  | .le => rI0 fun i j => .bl (decide (i ≤ j))
  | .gt => rI0 fun i j => .bl (decide (j < i))
  | .ge => rI0 fun i j => .bl (decide (j ≤ i))
  | .isin => rIn4 K
  | .notin => rNin4 K
theorem o_cmp (hu : X.A.units + 65 < cLine) (o : CO) : OpR X (compareOp (cOp o)) (rC X.K o) := by
  cases o with
  | eq => exact OpR.or (op_eqD (by omega)) (op_lenEq (by omega))
  | ne => exact OpR.or (op_neD (by omega)) (op_lenNe (by omega))
  | lt => exact o_lt
  | le => exact op_le
  | gt => exact op_gt
  | ge => exact op_ge
  | isin => exact o_in hu
  | notin => exact o_nin hu
theorem s_cmp (K : PySem.W.Frag) (o : CO) : CmS M (rC K o) o := by
  cases o with
  | eq => exact s_eq K
  | ne => exact s_ne K
  | lt => exact s_lt
  | le => exact s_le
  | gt => exact s_gt
  | ge => exact s_ge
  | isin => exact s_in K
  | notin => exact s_nin K
theorem se_cmp (hu : X.A.units + 65 < cLine) (o : CO) {a b : Expr} {fa fb : Fr → Hv → Rs Va} {pos : Pos} (ha : PE X a (tF M W fa)) (hb : PE X b (tF M W fb)) (hm : behindInMarks (cOp o) b = false) :
    PE X (.Compare a [cOp o] [b] pos) (tF M W fun s h => (fa s h).bind fun x h1 => (fb s h1).bind fun y h2 => bl (opCmp o x y h2)) :=
  PE.imp (pe_cmpR (o_cmp hu o) ha hb hm) fun σ H Q ⟨r, s, h, hs, he, q⟩ => tF.step hs he q fun r1 v h1 y H1 g1 hs1 he1 z1 q1 => tF.step hs1 he1 q1 fun r2 w h2 y2 H2 g2 hs2 he2 z2 q2 => s_cmp X.K o _ r2 h2 H2 v w y y2 Q he2 (z1.mono g2.pre) z2 q2
end
end MP
set_option linter.all false
set_option maxRecDepth 100000
set_option maxHeartbeats 4000000
/-! Subscripts, slices, truth, logic, displays, built-ins. -/
namespace MP
open PySem L2
section
variable {X : Cx} {M : Wd} {W : WX} {E : XK} {r : List Addr} {h : Hv} {H : Hp} {K : PySem.W.Frag}

/-! ### subscripts -/
theorem ixO_ok (n : Nat) (i : Int) : ixO n i = ixN n i := by
  unfold ixN
  cases i with
  | ofNat k =>
    rw [if_pos (show (0:Int) ≤ Int.ofNat k from Int.natCast_nonneg k)]
    show (match Nat.blt k n with | true => some k | false => none) = _
    cases e : Nat.blt k n with
    | true =>
      have := Nat.le_of_ble_eq_true e
      rw [if_pos (show Int.ofNat k < (n : Int) by simp; omega)]
      rfl
    | false =>
      have : ¬ k < n := fun z => by
        rw [show Nat.blt k n = true from Nat.ble_eq_true_of_le z] at e
        cases e
      rw [if_neg (show ¬ Int.ofNat k < (n : Int) by simp; omega)]
  | negSucc k =>
    rw [if_neg (show ¬ (0:Int) ≤ Int.negSucc k by omega)]
    show (match Nat.blt k n with | true => some (n - (k + 1)) | false => none) = _
    cases e : Nat.blt k n with
    | true =>
      have := Nat.le_of_ble_eq_true e
      rw [if_pos (show -(n : Int) ≤ Int.negSucc k by omega)]
      show some _ = some _
      congr 1
      omega
    | false =>
      have : ¬ k < n := fun z => by
        rw [show Nat.blt k n = true from Nat.ble_eq_true_of_le z] at e
        cases e
      rw [if_neg (show ¬ -(n : Int) ≤ Int.negSucc k by omega)]
theorem getO_ok {α : Type} {xs : List α} {i : Int} {v : α} (e : getO xs (ixO xs.length i) = some v) : atI xs i = some v := by
  unfold atI
  rw [← ixO_ok]
  unfold getO at e
  cases q : ixO xs.length i with
  | none =>
    rw [q] at e
    cases e
  | some j =>
    rw [q] at e
    exact e
theorem getO_vals {xs : List Va} {ys : List V} (p : RVs M r xs ys) {i : Int} {v : Va} (e : getO xs (ixO xs.length i) = some v) : ∃ y, atI ys i = some y ∧ RV M r v y := by
  have e := getO_ok e
  unfold atI at e ⊢
  rw [p.length] at e
  cases q : ixN ys.length i with
  | none =>
    rw [q] at e
    cases e
  | some j =>
    rw [q] at e
    obtain ⟨y, e1, z⟩ := pGet p (i := j) e
    exact ⟨y, e1, z⟩
def rIxD : R2 := fun x y H Q => ∃ a v, x = .ref a ∧ DGet H a y (some v) ∧ Q v H
theorem ix_dict (hu : X.A.units + 65 < cLine) : IxR X rIxD := by
  intro value slice pins s σ H x y v u Q I rx ry h hs
  obtain ⟨a, w, rfl, g, q⟩ := h
  obtain rfl : v = Value.ref a := rx
  exact PyProof.Rows.tail_any (dict_typeIs I g) PySem.F.slot_dict_getitem.lookup (d_getItem (by omega) I g ry fun w' s3 I3 rw' => ⟨w, H, I3, rw', q⟩) hs
def rIxA (K : PySem.W.Frag) : R2 := fun x y H Q => rIx K x y H Q ∨ rIxD x y H Q
theorem ix_all (hu : X.A.units + 65 < cLine) : IxR X (rIxA X.K) := ix_seq.or (ix_dict hu)
theorem toV_ok {o : Option Va} {Q : VK} (q : Cn M E r H (toV o h) (RV M) Q) : ∃ v, o = some v ∧ Cn M E r H (.ok v h) (RV M) Q := by
  cases o with
  | none => exact q.elim
  | some v => exact ⟨v, rfl, q⟩
theorem s_idx (K : PySem.W.Frag) : OpS M (rIxA K) opIdx := fun E r h H v w x y Q he z1 z2 q => by
  cases v with
  | str t =>
    cases w with
    | int i =>
      obtain ⟨hb, q⟩ := Cn.gd (x := (match getO t (ixO t.length i) with
        | some c => Rs.ok (Va.str [c]) h
        | none => Rs.no)) q
      cases e : getO t (ixO t.length i) with
      | none =>
        rw [e] at q
        exact q.elim
      | some c =>
        rw [e] at q
        refine .inl (.inr (.inr ⟨⟨t.toArray⟩, i, c, z1, z2, by rw [str_len]; exact bnd_line hb, getO_ok e, ?_⟩))
        exact q.ok he rfl
    | _ => exact q.elim
  | ref a =>
    have q : Cn M E r H (match h.rd a with
      | some (.lst xs) => (match (generalizing := false) w with
        | .int i => toV (getO xs (ixO xs.length i)) h
        | _ => .no)
      | some (.tup xs) => (match (generalizing := false) w with
        | .int i => toV (getO xs (ixO xs.length i)) h
        | _ => .no)
      | some (.dct kvs) => MP.gd (mixK w kvs) (toV (lookK w kvs) h)
      | some (.dtu kvs) => (match (generalizing := false) w with
        | .ref b => (match h.get b with
          | some (.tup ks) => (match ks.all isK with
            | true => toV (lookT ks kvs) h
            | false => .no)
          | _ => .no)
        | _ => .no)
      | _ => .no) (RV M) Q := by
      unfold opIdx at q
      cases w <;> exact q
    split at q
    · rename_i xs e
      cases w with
      | int i =>
        obtain ⟨v, e1, q⟩ := toV_ok q
        obtain ⟨p, ys, rfl, _, hl, ls⟩ := rd_lst he e z1 K
        obtain ⟨y', e2, z⟩ := getO_vals ls e1
        exact .inl (.inl ⟨p, ys, i, y', rfl, z2, hl, e2, q.ok he z⟩)
      | _ => exact q.elim
    · rename_i xs e
      cases w with
      | int i =>
        obtain ⟨v, e1, q⟩ := toV_ok q
        obtain ⟨p, ys, rfl, _, hl, ls⟩ := rd_tup he e z1 K
        obtain ⟨y', e2, z⟩ := getO_vals ls e1
        exact .inl (.inr (.inl ⟨p, ys, i, y', rfl, z2, hl, e2, q.ok he z⟩))
      | _ => exact q.elim
    · rename_i kvs e
      obtain ⟨k, q⟩ := q.gd
      obtain ⟨v, e1, q⟩ := toV_ok q
      obtain ⟨p, ys, rfl, _, hl, ls⟩ := rd_dct he e z1
      obtain ⟨⟨l, zk, rfl⟩, mx⟩ := mixK_ok z2 k
      rcases lookK_ok ls zk mx with ⟨k1, k2⟩ | ⟨v', x', k1, k2, k3⟩
      · rw [k1] at e1
        cases e1
      · rw [k1] at e1
        cases e1
        exact .inr ⟨p, x', rfl, .inl ⟨ys, l, hl, rfl, k2.symm⟩, q.ok he k3⟩
    · rename_i kvs e
      cases w with
      | ref c =>
        have q : Cn M E r H (match h.get c with
          | some (.tup ks) => (match ks.all isK with
            | true => toV (lookT ks kvs) h
            | false => .no)
          | _ => .no) (RV M) Q := q
        obtain ⟨p, ys, rfl, _, hl, ls⟩ := rd_dtu he e z1
        split at q
        · rename_i ks q2
          cases e1 : ks.all isK with
          | false =>
            rw [e1] at q
            exact q.elim
          | true =>
            rw [e1] at q
            obtain ⟨v, e3, q⟩ := toV_ok q
            obtain ⟨p2, xs2, rfl, _, h2, l2⟩ := get_tup he q2 z2
            obtain ⟨l, zk, rfl⟩ := allK_ok l2 e1
            rcases lookT_ok ls zk with ⟨k1, k2⟩ | ⟨v', x', k1, k2, k3⟩
            · rw [k1] at e3
              cases e3
            · rw [k1] at e3
              cases e3
              exact .inr ⟨p, x', rfl, .inr ⟨ys, l, p2, hl, rfl, h2, k2.symm⟩, q.ok he k3⟩
        · exact q.elim
      | _ => exact q.elim
    · exact q.elim
  | _ => cases w <;> exact q.elim
theorem se_idx (hu : X.A.units + 65 < cLine) {a b : Expr} {fa fb : Fr → Hv → Rs Va} {pos : Pos} (ha : PE X a (tF M W fa)) (hb : PE X b (tF M W fb)) (hs : PlainIx b) :
    PE X (.Subscript a b pos) (tF M W fun s h => (fa s h).bind fun x h1 => (fb s h1).bind fun y h2 => opIdx x y h2) :=
  PE.imp (pe_ix (ix_all hu) ha hb hs) fun σ H Q ⟨r, s, h, hs, he, q⟩ => tF.step hs he q fun r1 v h1 y H1 g1 hs1 he1 z1 q1 => tF.step hs1 he1 q1 fun r2 w h2 y2 H2 g2 hs2 he2 z2 q2 => s_idx X.K _ r2 h2 H2 v w y y2 Q he2 (z1.mono g2.pre) z2 q2

/-! ### slices -/
theorem slE_ok (n d : Nat) (o : Option Int) : slE n d o = HT.sIx n d o := by
  cases o with
  | none => rfl
  | some i =>
    unfold slE HT.sIx
    cases i with
    | ofNat k =>
      show (match Nat.ble k n with | true => k | false => n) = if (Int.ofNat k) < 0 then _ else min (Int.ofNat k).toNat n
      rw [if_neg (show ¬ (Int.ofNat k < 0) by simp)]
      cases e : Nat.ble k n with
      | true =>
        have := Nat.le_of_ble_eq_true e
        simp
        omega
      | false =>
        have : ¬ k ≤ n := fun z => by
          rw [Nat.ble_eq_true_of_le z] at e
          cases e
        simp
        omega
    | negSucc k =>
      show n - (k + 1) = if Int.negSucc k < 0 then _ else _
      rw [if_pos (by omega)]
      omega
theorem cutO_ok {xs : List Va} {ys : List V} (p : RVs M r xs ys) (lo hi : Option Int) : RVs M r (cutO xs lo hi) (cutV ys lo hi) := by
  unfold cutO cutV
  rw [slE_ok, slE_ok, p.length]
  exact pTake (pDrop p _) _
theorem cutS_ok (t : List Nat) (lo hi : Option Int) : (⟨(cutO t lo hi).toArray⟩ : Str) = cutS ⟨t.toArray⟩ lo hi := by
  unfold cutO cutS
  rw [slE_ok, slE_ok, str_len]
/-- a slice, by the small one -/
def SlS (M : Wd) (r3 : V → Option Int → Option Int → Hp → VK → Prop) (g : Va → Option Int → Option Int → Hv → Rs Va) : Prop :=
  ∀ (E : XK) (r : List Addr) (h : Hv) (H : Hp) (v : Va) (x : V) (lo hi : Option Int) (Q : VK), Emb M r h H → RV M r v x → Cn M E r H (g v lo hi h) (RV M) Q → r3 x lo hi H Q
def rSl (K : PySem.W.Frag) : V → Option Int → Option Int → Hp → VK → Prop := fun x lo hi H Q => (rSlL K x lo hi H Q ∨ rSlA K x lo hi H Q) ∨ rSlS x lo hi H Q
theorem sl_all : SlR X (rSl X.K) := SlR.or (SlR.or sl_list sl_tupA) sl_str
theorem s_slc (K : PySem.W.Frag) : SlS M (rSl K) opSlc := fun E r h H v x lo hi Q he z q => by
  cases v with
  | str t =>
    obtain ⟨hb, q⟩ := Cn.gd (x := Rs.ok (Va.str (cutO t lo hi)) h) q
    refine .inr ⟨_, z, by rw [str_len]; exact bnd_line hb, ?_⟩
    rw [← cutS_ok]
    exact q.ok he rfl
  | ref a =>
    have q : Cn M E r H (match h.rd a with
      | some (.lst xs) => newOb (.lst (cutO xs lo hi)) h
      | some (.tup xs) => (match Nat.beq (slE xs.length 0 lo) 0 && Nat.beq (slE xs.length xs.length hi) xs.length with
        | true => .ok (.ref a) h
        | false => newOb (.tup (cutO xs lo hi)) h)
      | _ => .no) (RV M) Q := q
    split at q
    · rename_i xs e
      obtain ⟨p, ys, rfl, _, hl, ls⟩ := rd_lst he e z K
      refine .inl (.inl ⟨p, ys, rfl, hl, fun p' hp => ?_⟩)
      exact q.new he hp ⟨_, rfl, RVs.pre (cutO_ok ls lo hi)⟩
    · rename_i xs e
      obtain ⟨p, ys, rfl, w1, hl, ls⟩ := rd_tup he e z K
      rw [slE_ok, slE_ok, ls.length] at q
      refine .inl (.inr ⟨p, ys, rfl, hl, fun ⟨k1, k2⟩ => ?_, fun k p' hp => ?_⟩)
      · have c : (Nat.beq (HT.sIx ys.length 0 lo) 0 && Nat.beq (HT.sIx ys.length ys.length hi) ys.length) = true := by
          rw [k1, k2, Nat.beq_refl, Nat.beq_refl]
          rfl
        rw [c] at q
        have q : Cn M E r H (.ok (Va.ref a) h) (RV M) Q := q
        exact q.ok he ⟨p, w1, rfl⟩
      · have : (Nat.beq (HT.sIx ys.length 0 lo) 0 && Nat.beq (HT.sIx ys.length ys.length hi) ys.length) = false := by
          rw [Bool.eq_false_iff]
          intro c
          rw [Bool.and_eq_true] at c
          exact k ⟨Nat.eq_of_beq_eq_true c.1, Nat.eq_of_beq_eq_true c.2⟩
        rw [this] at q
        exact Cn.new (o := .tup (cutO xs lo hi)) q he hp ⟨_, rfl, RVs.pre (cutO_ok ls lo hi)⟩
    · exact q.elim
  | _ => exact q.elim
/-- a slice's part -/
def tFO (M : Wd) (W : WX) (f : Fr → Hv → Rs (Option Int)) : TO := fun σ H Q => ∃ r s h, RF M r s σ ∧ Emb M r h H ∧ Cn M (XAt W σ) r H (f s h) (fun _ a b => b = a) Q
theorem PO.imp {e : Option Expr} {t t' : TO} (p : PO X e t) (i : ∀ σ H Q, t' σ H Q → t σ H Q) : PO X e t' := ⟨fun pins s σ H Q I h => p.run pins s σ H Q I (i σ H Q h)⟩
theorem so_none : PO X none (tFO M W fun _ h => .ok none h) := PO.imp po_none fun σ H Q ⟨r, s, h, hs, he, q⟩ => Cn.ok (v := (none : Option Int)) q he rfl
theorem so_some {e : Expr} {f : Fr → Hv → Rs Va} (p : PE X e (tF M W f)) : PO X (some e) (tFO M W fun s h => (f s h).bind fun v h1 => match v with
    | .int i => .ok (some i) h1
    | _ => .no) := PO.imp (po_some p) fun σ H Q ⟨r, s, h, hs, he, q⟩ => tF.step hs he q fun r1 v h1 y H1 g1 hs1 he1 z1 q1 => by
  cases v with
  | int i => exact ⟨i, z1, Cn.ok (v := some i) q1 he1 rfl⟩
  | _ => exact q1.elim
theorem tFO.step {f : Fr → Hv → Rs (Option Int)} {α β : Type} {R : List Addr → α → β → Prop} {k : Option Int → Hv → Rs α} {r : List Addr} {s : Fr} {h : Hv} {σ : L2.St} {H : Hp} {Q : β → Hp → Prop} {Q' : Option Int → Hp → Prop} (hs : RF M r s σ) (he : Emb M r h H)
    (q : Cn M (XAt W σ) r H ((f s h).bind k) R Q) (i : ∀ r1 v h1 H1, Gro M r H h1 r1 H1 → RF M r1 s σ → Emb M r1 h1 H1 → Cn M (XAt W σ) r1 H1 (k v h1) R Q → Q' v H1) : tFO M W f σ H Q' :=
  ⟨r, s, h, hs, he, q.bind.mono fun y H1 ⟨r1, v, h1, g, z, q1⟩ => by
    subst z
    exact i r1 y h1 H1 g (hs.mono g.pre) g.emb q1⟩
theorem se_slc {a : Expr} {lo hi : Option Expr} {fa : Fr → Hv → Rs Va} {fl fh : Fr → Hv → Rs (Option Int)} {pos p2 : Pos} (ha : PE X a (tF M W fa)) (hl : PO X lo (tFO M W fl)) (hh : PO X hi (tFO M W fh)) :
    PE X (.Subscript a (.Slice lo hi none p2) pos) (tF M W fun s h => (fa s h).bind fun x h1 => (fl s h1).bind fun l h2 => (fh s h2).bind fun u h3 => opSlc x l u h3) :=
  PE.imp (pe_slice sl_all ha hl hh) fun σ H Q ⟨r, s, h, hs, he, q⟩ => tF.step hs he q fun r1 v h1 y H1 g1 hs1 he1 z1 q1 => tFO.step hs1 he1 q1 fun r2 l h2 H2 g2 hs2 he2 q2 => tFO.step hs2 he2 q2 fun r3 u h3 H3 g3 hs3 he3 q3 =>
    s_slc X.K _ r3 h3 H3 v y l u Q he3 ((z1.mono g2.pre).mono g3.pre) q3
theorem se_rev {e : Expr} {f : Fr → Hv → Rs Va} {k : Nat} {p1 p2 p3 pos : Pos} (he : PE X e (tF M W f)) : PE X (.Subscript e (.Slice none none (some (.UnaryOp .USub (.Constant (.int 1) k p1) p2)) p3) pos) (tF M W fun s h => (f s h).bind fun x h1 => opRev x h1) :=
  PE.imp (pe_revL he) fun σ H Q ⟨r, s, h, hs, he, q⟩ => tF.step hs he q fun r1 v h1 y H1 g1 hs1 he1 z1 q1 => by
    cases v with
    | ref a =>
      have q1 : Cn M (XAt W σ) r1 H1 (match h1.rd a with
        | some (.lst xs) => newOb (.lst xs.reverse) h1
        | _ => .no) (RV M) Q := q1
      split at q1
      · rename_i xs e
        obtain ⟨p, ys, rfl, _, hl, ls⟩ := rd_lst he1 e z1 X.K
        exact ⟨p, ys, rfl, hl, fun p' hp => q1.new he1 hp ⟨_, rfl, RVs.pre (pRev ls)⟩⟩
      · exact q1.elim
    | _ => exact q1.elim
end
end MP
set_option linter.all false
set_option maxRecDepth 100000
set_option maxHeartbeats 4000000
/-! Truth, logic, displays, built-ins. -/
namespace MP
open PySem L2
section
variable {X : Cx} {M : Wd} {W : WX} {E : XK} {r : List Addr} {h : Hv} {H : Hp} {K : PySem.W.Frag}

/-! ### truth, tests -/
theorem truth_ok (K : PySem.W.Frag) (he : Emb M r h H) {v : Va} {x : V} (z : RV M r v x) {α β : Type} {R : List Addr → α → β → Prop} {Q : β → Hp → Prop} {k : Bool → Hv → Rs α} (q : Cn M E r H ((truth v h).bind k) R Q) : ∃ b, TruV K x H b ∧ Cn M E r H (k b h) R Q := by
  cases v with
  | non =>
    cases z
    exact ⟨false, rfl, q⟩
  | bl b =>
    cases z
    exact ⟨b, rfl, q⟩
  | int i =>
    cases z
    refine ⟨_, ?_, q⟩
    show (!decide (i = 0)) = (i != 0)
    rw [Bool.eq_iff_iff]
    simp
  | tok k => exact q.elim
  | str s =>
    cases z
    have q : Cn M E r H ((gd (Nat.ble s.length Bnd) (.ok (!s.isEmpty) h)).bind k) R Q := q
    cases e : Nat.ble s.length Bnd with
    | false =>
      rw [e] at q
      exact q.elim
    | true =>
      rw [e] at q
      refine ⟨_, ⟨by rw [str_len]; exact bnd_line e, ?_⟩, q⟩
      rw [str_len]
      cases s with
      | nil => rfl
      | cons a t =>
        show true = (((t.length + 1 : Nat) : Int) != 0)
        symm
        rw [bne_iff_ne]
        omega
  | ref a =>
    have q : Cn M E r H ((match h.rd a with
      | some (.lst xs) => .ok (!xs.isEmpty) h
      | some (.tup xs) => .ok (!xs.isEmpty) h
      | some (.dct xs) => (match h.get a with
        | some (.dct _) => .ok (!xs.isEmpty) h
        | _ => .no)
      | _ => Rs.no : Rs Bool).bind k) R Q := q
    split at q
    · rename_i xs e
      obtain ⟨p, ys, rfl, _, hl, ls⟩ := rd_lst he e z K
      refine ⟨_, .inl ⟨ys, hl, ?_⟩, q⟩
      cases ls <;> rfl
    · rename_i xs e
      obtain ⟨p, ys, rfl, _, hl, ls⟩ := rd_tup he e z K
      refine ⟨_, .inr (.inl ⟨ys, hl, ?_⟩), q⟩
      cases ls <;> rfl
    · rename_i xs e
      split at q
      · rename_i xs' e'
        obtain ⟨p, u, e1, e2, ys, rfl, ls⟩ := he.at_ _ _ e'
        obtain ⟨p', e3, rfl⟩ := z
        rw [e1] at e3
        cases e3
        have : xs = xs' := by
          unfold Hv.rd at e
          rw [e'] at e
          cases e
          rfl
        subst this
        refine ⟨_, .inr (.inr ⟨ys, e2, ?_⟩), q⟩
        cases ls <;> rfl
      · exact q.elim
    · exact q.elim
  | fn f => exact q.elim
  | cl c => exact q.elim
theorem PT.imp' {e : Expr} {t t' : TT} (p : PT X e t) (i : ∀ σ H Q, t' σ H Q → t σ H Q) : PT X e t' := PT.imp p i
/-- a test whose truth is its value's -/
theorem st_truth {a : Expr} {f : Fr → Hv → Rs Va} (ha : PE X a (tF M W f)) (he : ∀ whole, isTrue a X.env whole = (do let v ← whole; standAt a.pos; holding [v] (truthy v))) : PT X a (tFT M W fun s h => (f s h).bind fun v h1 => truth v h1) :=
  PT.imp (pt_truth ha he) fun σ H Q ⟨r, s, h, hs, he, q⟩ => tF.step hs he q fun r1 v h1 y H1 g1 hs1 he1 z1 q1 => by
    rw [show truth v h1 = (truth v h1).bind (fun b h => .ok b h) by cases truth v h1 <;> rfl] at q1
    obtain ⟨b, t, q2⟩ := truth_ok X.K he1 z1 q1
    exact ⟨b, t, q2.ok he1 rfl⟩
theorem st_cmp (hu : X.A.units + 65 < cLine) (o : CO) {a b : Expr} {fa fb : Fr → Hv → Rs Va} {pos : Pos} (ha : PE X a (tF M W fa)) (hb : PE X b (tF M W fb)) (hm : behindInMarks (cOp o) b = false) :
    PT X (.Compare a [cOp o] [b] pos) (tFT M W fun s h => ((fa s h).bind fun x h1 => (fb s h1).bind fun y h2 => bl (opCmp o x y h2)).bind fun v h1 => truth v h1) :=
  PT.imp (pt_cmpR (o_cmp hu o) ha hb hm) fun σ H Q ⟨r, s, h, hs, he, q⟩ => by
    have as : ∀ {α β γ : Type} (x : Rs α) (k : α → Hv → Rs β) (l : β → Hv → Rs γ), (x.bind k).bind l = x.bind fun a h => (k a h).bind l := fun x k l => by cases x <;> rfl
    have q : Cn M (XAt W σ) r H (((fa s h).bind fun x h1 => (fb s h1).bind fun y h2 => bl (opCmp o x y h2)).bind fun v h1 => truth v h1) (fun _ a b => b = a) Q := q
    rw [as] at q
    refine tF.step hs he q fun r1 v h1 y H1 g1 hs1 he1 z1 q1 => ?_
    rw [as] at q1
    refine tF.step hs1 he1 q1 fun r2 w h2 y2 H2 g2 hs2 he2 z2 q2 => ?_
    refine s_cmp X.K o (XAt W σ) r2 h2 H2 v w y y2 _ he2 (z1.mono g2.pre) z2 ?_
    show Cn M (XAt W σ) r2 H2 (bl (opCmp o v w h2)) (RV M) _
    revert q2
    cases opCmp o v w h2 with
    | ok b h3 =>
      intro q2 r' y' H' g' z'
      cases z'
      exact ⟨b, rfl, q2 r' b H' g' rfl⟩
    | ex c f h3 => exact fun q2 => q2
    | no => exact fun q2 => q2
theorem as_bind {α β γ : Type} (x : Rs α) (k : α → Hv → Rs β) (l : β → Hv → Rs γ) : (x.bind k).bind l = x.bind fun a h => (k a h).bind l := by cases x <;> rfl
theorem st_not {a : Expr} {f : Fr → Hv → Rs Bool} {pos : Pos} (ha : PT X a (tFT M W f)) : PT X (.UnaryOp .Not a pos) (tFT M W fun s h => (f s h).bind fun b h1 => .ok (!b) h1) :=
  PT.imp (pt_not ha) fun σ H Q ⟨r, s, h, hs, he, q⟩ => tFT.step hs he q fun r1 v h1 H1 g1 hs1 he1 q1 => q1.ok he1 rfl
theorem st_and1 {a : Expr} {f : Fr → Hv → Rs Bool} {pos : Pos} (ha : PT X a (tFT M W f)) : PW X (.BoolOp .And [a] pos) (tFT M W f) := pw_and1 ha
theorem st_or1 {a : Expr} {f : Fr → Hv → Rs Bool} {pos : Pos} (ha : PT X a (tFT M W f)) : PW X (.BoolOp .Or [a] pos) (tFT M W f) := pw_or1 ha
theorem PW.imp {e : Expr} {t t' : TT} (p : PW X e t) (i : ∀ σ H Q, t' σ H Q → t σ H Q) : PW X e t' := ⟨fun wh pins s σ H Q I h => p.run wh pins s σ H Q I (i σ H Q h)⟩
theorem st_and {a b : Expr} {rest : List Expr} {fa fb : Fr → Hv → Rs Bool} {pos : Pos} (ha : PT X a (tFT M W fa)) (hb : PW X (.BoolOp .And (b :: rest) pos) (tFT M W fb)) : PW X (.BoolOp .And (a :: b :: rest) pos) (tFT M W fun s h => (fa s h).bind fun k h1 => match k with
      | true => fb s h1
      | false => .ok false h1) :=
  PW.imp (pw_and ha hb) fun σ H Q ⟨r, s, h, hs, he, q⟩ => tFT.step hs he q fun r1 v h1 H1 g1 hs1 he1 q1 => by
    cases v with
    | true => exact (if_pos rfl).mpr ⟨r1, s, h1, hs1, he1, q1⟩
    | false => exact (if_neg (by decide)).mpr (Cn.ok (v := false) q1 he1 rfl)
theorem st_or {a b : Expr} {rest : List Expr} {fa fb : Fr → Hv → Rs Bool} {pos : Pos} (ha : PT X a (tFT M W fa)) (hb : PW X (.BoolOp .Or (b :: rest) pos) (tFT M W fb)) : PW X (.BoolOp .Or (a :: b :: rest) pos) (tFT M W fun s h => (fa s h).bind fun k h1 => match k with
      | true => .ok true h1
      | false => fb s h1) :=
  PW.imp (pw_or ha hb) fun σ H Q ⟨r, s, h, hs, he, q⟩ => tFT.step hs he q fun r1 v h1 H1 g1 hs1 he1 q1 => by
    cases v with
    | true => exact (if_pos rfl).mpr (Cn.ok (v := true) q1 he1 rfl)
    | false => exact (if_neg (by decide)).mpr ⟨r1, s, h1, hs1, he1, q1⟩

/-! ### logic as values -/
theorem se_and {a b : Expr} {rest : List Expr} {fa fb : Fr → Hv → Rs Va} {pos : Pos} (ha : PE X a (tF M W fa)) (hb : PE X (.BoolOp .And (b :: rest) pos) (tF M W fb)) : PE X (.BoolOp .And (a :: b :: rest) pos) (tF M W fun s h => (fa s h).bind fun x h1 => match x with
      | .bl true => fb s h1
      | .bl false => .ok (.bl false) h1
      | _ => .no) :=
  PE.imp (pe_and ha hb) fun σ H Q ⟨r, s, h, hs, he, q⟩ => tF.step hs he q fun r1 v h1 y H1 g1 hs1 he1 z1 q1 => by
    cases v with
    | bl b =>
      cases b with
      | true => exact ⟨true, z1, (if_pos rfl).mpr ⟨r1, s, h1, hs1, he1, q1⟩⟩
      | false => exact ⟨false, z1, (if_neg (by decide)).mpr (Cn.ok (v := Va.bl false) q1 he1 rfl)⟩
    | _ => exact q1.elim
theorem se_or {a b : Expr} {rest : List Expr} {fa fb : Fr → Hv → Rs Va} {pos : Pos} (ha : PE X a (tF M W fa)) (hb : PE X (.BoolOp .Or (b :: rest) pos) (tF M W fb)) : PE X (.BoolOp .Or (a :: b :: rest) pos) (tF M W fun s h => (fa s h).bind fun x h1 => match x with
      | .bl true => .ok (.bl true) h1
      | .bl false => fb s h1
      | _ => .no) :=
  PE.imp (pe_or ha hb) fun σ H Q ⟨r, s, h, hs, he, q⟩ => tF.step hs he q fun r1 v h1 y H1 g1 hs1 he1 z1 q1 => by
    cases v with
    | bl b =>
      cases b with
      | true => exact ⟨true, z1, (if_pos rfl).mpr (Cn.ok (v := Va.bl true) q1 he1 rfl)⟩
      | false => exact ⟨false, z1, (if_neg (by decide)).mpr ⟨r1, s, h1, hs1, he1, q1⟩⟩
    | _ => exact q1.elim
theorem se_not {a : Expr} {f : Fr → Hv → Rs Va} {pos : Pos} (ha : PE X a (tF M W f)) : PE X (.UnaryOp .Not a pos) (tF M W fun s h => (f s h).bind fun x h1 => match x with
      | .bl b => .ok (.bl (!b)) h1
      | _ => .no) :=
  PE.imp (pe_not ha) fun σ H Q ⟨r, s, h, hs, he, q⟩ => tF.step hs he q fun r1 v h1 y H1 g1 hs1 he1 z1 q1 => by
    cases v with
    | bl b => exact ⟨b, z1, Cn.ok (v := Va.bl (!b)) q1 he1 rfl⟩
    | _ => exact q1.elim
theorem se_neg {a : Expr} {f : Fr → Hv → Rs Va} {pos : Pos} (ha : PE X a (tF M W f)) : PE X (.UnaryOp .USub a pos) (tF M W fun s h => (f s h).bind fun x h1 => match x with
      | .int i => .ok (.int (-i)) h1
      | _ => .no) :=
  PE.imp (pe_un un_neg ha) fun σ H Q ⟨r, s, h, hs, he, q⟩ => tF.step hs he q fun r1 v h1 y H1 g1 hs1 he1 z1 q1 => by
    cases v with
    | int i => exact ⟨i, z1, Cn.ok (v := Va.int (-i)) q1 he1 rfl⟩
    | _ => exact q1.elim
theorem se_ite {c a b : Expr} {fc : Fr → Hv → Rs Bool} {fa fb : Fr → Hv → Rs Va} {pos : Pos} (hc : PT X c (tFT M W fc)) (ha : PE X a (tF M W fa)) (hb : PE X b (tF M W fb)) : PE X (.IfExp c a b pos) (tF M W fun s h => (fc s h).bind fun k h1 => match k with
      | true => fa s h1
      | false => fb s h1) :=
  PE.imp (pe_ifExp hc ha hb) fun σ H Q ⟨r, s, h, hs, he, q⟩ => tFT.step hs he q fun r1 v h1 H1 g1 hs1 he1 q1 => by
    cases v with
    | true => exact (if_pos rfl).mpr ⟨r1, s, h1, hs1, he1, q1⟩
    | false => exact (if_neg (by decide)).mpr ⟨r1, s, h1, hs1, he1, q1⟩
theorem non_ok {v : Va} {x : V} (z : RV M r v x) : decide (x = .non) = isNon v := by
  cases v with
  | non =>
    cases z
    rfl
  | ref a =>
    obtain ⟨p, _, rfl⟩ := z
    rfl
  | tok k =>
    obtain ⟨_, rfl⟩ := z
    rfl
  | _ =>
    cases z
    rfl
theorem se_isN {a : Expr} {f : Fr → Hv → Rs Va} {pos p2 : Pos} {j : Nat} (ha : PE X a (tF M W f)) : PE X (.Compare a [.Is] [.Constant .none j p2] pos) (tF M W fun s h => (f s h).bind fun x h1 => .ok (.bl (isNon x)) h1) :=
  PE.imp (pe_cmpR op_isN ha pe_non (by rfl)) fun σ H Q ⟨r, s, h, hs, he, q⟩ => tF.step hs he q fun r1 v h1 y H1 g1 hs1 he1 z1 q1 => by
    refine ⟨rfl, ?_⟩
    rw [non_ok z1]
    exact q1.ok he1 rfl
theorem se_notN {a : Expr} {f : Fr → Hv → Rs Va} {pos p2 : Pos} {j : Nat} (ha : PE X a (tF M W f)) : PE X (.Compare a [.IsNot] [.Constant .none j p2] pos) (tF M W fun s h => (f s h).bind fun x h1 => .ok (.bl (!isNon x)) h1) :=
  PE.imp (pe_cmpR op_notN ha pe_non (by rfl)) fun σ H Q ⟨r, s, h, hs, he, q⟩ => tF.step hs he q fun r1 v h1 y H1 g1 hs1 he1 z1 q1 => by
    refine ⟨rfl, ?_⟩
    rw [non_ok z1]
    exact q1.ok he1 rfl
/-- a test that is bool valued -/
theorem st_bl {a : Expr} {t : TE} {f : Fr → Hv → Rs Va} (p : PT X a (tTest t)) (i : ∀ σ H Q, tF M W f σ H Q → t σ H Q) (hb : ∀ s h v h1, f s h = .ok v h1 → ∃ b, v = .bl b) : PT X a (tFT M W fun s h => (f s h).bind fun v h1 => truth v h1) :=
  PT.imp p fun σ H Q ⟨r, s, h, hs, he, q⟩ => i σ H _ ⟨r, s, h, hs, he, by
    have q : Cn M (XAt W σ) r H ((f s h).bind fun v h1 => truth v h1) (fun _ a b => b = a) Q := q
    revert q
    cases e : f s h with
    | ok v h1 =>
      obtain ⟨b, rfl⟩ := hb s h v h1 e
      intro q r' y H' g z
      cases z
      exact ⟨b, rfl, q r' b H' g rfl⟩
    | ex c fs h1 => exact fun q => q
    | no => exact fun q => q⟩
theorem bl_bind {x : Rs α} {v : Va} {h1 : Hv} {k : α → Hv → Bool} (e : (x.bind fun a h => .ok (Va.bl (k a h)) h) = .ok v h1) : ∃ b, v = .bl b := by
  cases x with
  | ok a h =>
    cases e
    exact ⟨_, rfl⟩
  | ex c f h => cases e
  | no => cases e
theorem st_isN {a : Expr} {f : Fr → Hv → Rs Va} {pos p2 : Pos} {j : Nat} (ha : PE X a (tF M W f)) : PT X (.Compare a [.Is] [.Constant .none j p2] pos) (tFT M W fun s h => ((f s h).bind fun x h1 => .ok (.bl (isNon x)) h1).bind fun v h1 => truth v h1) :=
  st_bl (pt_cmpR op_isN ha pe_non (by rfl)) (fun σ H Q ⟨r, s, h, hs, he, q⟩ => tF.step hs he q fun r1 v h1 y H1 g1 hs1 he1 z1 q1 => by
    refine ⟨rfl, ?_⟩
    rw [non_ok z1]
    exact q1.ok he1 rfl) fun s h v h1 e => bl_bind e
theorem st_notN {a : Expr} {f : Fr → Hv → Rs Va} {pos p2 : Pos} {j : Nat} (ha : PE X a (tF M W f)) : PT X (.Compare a [.IsNot] [.Constant .none j p2] pos) (tFT M W fun s h => ((f s h).bind fun x h1 => .ok (.bl (!isNon x)) h1).bind fun v h1 => truth v h1) :=
  st_bl (pt_cmpR op_notN ha pe_non (by rfl)) (fun σ H Q ⟨r, s, h, hs, he, q⟩ => tF.step hs he q fun r1 v h1 y H1 g1 hs1 he1 z1 q1 => by
    refine ⟨rfl, ?_⟩
    rw [non_ok z1]
    exact q1.ok he1 rfl) fun s h v h1 e => bl_bind e
/-- a op b op' c -/
def fChn (o p : CO) (fa fb fc : Fr → Hv → Rs Va) : Fr → Hv → Rs Va := fun s h => (fa s h).bind fun x h1 => (fb s h1).bind fun y h2 => (opCmp o x y h2).bind fun k h3 => match k with
      | true => (fc s h3).bind fun z h4 => bl (opCmp p y z h4)
      | false => .ok (.bl false) h3
theorem chn_ok {o p : CO} {fa fb fc : Fr → Hv → Rs Va} {ta tb tc : TE} {a b c : Expr} (σ : L2.St) (H : Hp) (Q : VK) (q : tF M W (fChn o p fa fb fc) σ H Q) : tChain (rC K o) (rC K p) (tF M W fa) (tF M W fb) (tF M W fc) σ H Q := by
  obtain ⟨r, s, h, hs, he, q⟩ := q
  refine tF.step hs he q fun r1 v h1 y H1 g1 hs1 he1 z1 q1 => tF.step hs1 he1 q1 fun r2 w h2 y2 H2 g2 hs2 he2 z2 q2 => ?_
  refine s_cmp K o (XAt W σ) r2 h2 H2 v w y y2 _ he2 (z1.mono g2.pre) z2 ?_
  show Cn M (XAt W σ) r2 H2 (bl (opCmp o v w h2)) (RV M) _
  revert q2
  cases opCmp o v w h2 with
  | ok k h3 =>
    intro q2 r' y' H' g' z'
    cases z'
    refine ⟨k, rfl, ?_⟩
    have q3 := q2.later g'
    cases k with
    | false => exact (if_neg (by decide)).mpr (Cn.ok (v := Va.bl false) q3 g'.emb rfl)
    | true =>
      refine (if_pos rfl).mpr ?_
      refine tF.step (hs2.mono g'.pre) g'.emb q3 fun r4 u h4 y4 H4 g4 hs4 he4 z4 q4 => ?_
      exact s_cmp K p (XAt W σ) r4 h4 H4 w u y2 y4 Q he4 ((z2.mono g'.pre).mono g4.pre) z4 q4
  | ex c f h3 => exact fun q2 => q2
  | no => exact fun q2 => q2
end
end MP
set_option linter.all false
set_option maxRecDepth 100000
set_option maxHeartbeats 4000000
/-! Argument lists, displays, built-ins. -/
namespace MP
open PySem L2
section
variable {X : Cx} {M : Wd} {W : WX} {E : XK} {r : List Addr} {h : Hv} {H : Hp} {K : PySem.W.Frag}

/-! ### argument lists -/
/-- not a star -/
def plainX : Expr → Bool
  | .Starred _ _ => false
  | _ => true
theorem starEach_plain {e : Expr} (es : List Expr) (env : Env) (h : plainX e = true) : starEach (e :: es) env = (false, eval e env) :: starEach es env := by
  cases e <;> first | rfl | cases h
theorem noStar : ∀ {es : List Expr} {env : Env} {pos : Pos}, es.all plainX = true → (backTo pos (starEach es env)).any (·.1) = false
  | [], _, _, _ => rfl
  | e :: es, env, pos, h => by
    rw [List.all_cons, Bool.and_eq_true] at h
    rw [starEach_plain es env h.1]
    show (false || (backTo pos (starEach es env)).any (·.1)) = false
    rw [noStar h.2]
    rfl
theorem sa_nil : PA X [] (tFA M W fun _ h => .ok [] h) := PA.imp pa_nil fun σ H Q ⟨r, s, h, hs, he, q⟩ => Cn.ok (v := ([] : List Va)) q he .nil
theorem sa_cons {e : Expr} {es : List Expr} {f : Fr → Hv → Rs Va} {g : Fr → Hv → Rs (List Va)} (hp : plainX e = true) (he : PE X e (tF M W f)) (hes : PA X es (tFA M W g)) : PA X (e :: es) (tFA M W fun s h => (f s h).bind fun v h1 => (g s h1).bind fun ys h2 => .ok (v :: ys) h2) :=
  PA.imp (pa_cons he hes (starEach_plain es X.env hp)) fun σ H Q ⟨r, s, h, hs, he, q⟩ => tF.step hs he q fun r1 v h1 y H1 g1 hs1 he1 z1 q1 => tFA.step hs1 he1 q1 fun r2 w h2 y2 H2 g2 hs2 he2 z2 q2 => Cn.ok (v := v :: w) q2 he2 (.cons (z1.mono g2.pre) z2)
theorem items_ok (K : PySem.W.Frag) (he : Emb M r h H) {v : Va} {x : V} (z : RV M r v x) {xs : List Va} (e : items h v = some xs) : ∃ p ys, x = V.ref p ∧ (SqT K H p ys ∨ SqL K H p ys) ∧ RVs M r xs ys := by
  cases v with
  | ref a =>
    have e : (match h.rd a with
      | some (.lst xs) => some xs
      | some (.tup xs) => some xs
      | _ => none) = some xs := e
    split at e
    · rename_i xs' q
      cases e
      obtain ⟨p, ys, rfl, _, hl, ls⟩ := rd_lst he q z K
      exact ⟨p, ys, rfl, .inr hl, ls⟩
    · rename_i xs' q
      cases e
      obtain ⟨p, ys, rfl, _, hl, ls⟩ := rd_tup he q z K
      exact ⟨p, ys, rfl, .inl hl, ls⟩
    · cases e
  | _ => cases e
theorem sa_star {e : Expr} {es : List Expr} {sp : Pos} {f : Fr → Hv → Rs Va} {g : Fr → Hv → Rs (List Va)} (he : PE X e (tF M W f)) (hes : PA X es (tFA M W g)) : PA X (.Starred e sp :: es) (tFA M W fun s h => (f s h).bind fun v h1 => match items h1 v with
      | none => .no
      | some xs => (g s h1).bind fun ys h2 => .ok (xs ++ ys) h2) :=
  PA.imp (StX.pa_star he hes rfl) fun σ H Q ⟨r, s, h, hs, he, q⟩ => tF.step hs he q fun r1 v h1 y H1 g1 hs1 he1 z1 q1 => by
    cases e : items h1 v with
    | none =>
      rw [e] at q1
      exact q1.elim
    | some xs =>
      rw [e] at q1
      obtain ⟨p, ys, rfl, k, ls⟩ := items_ok X.K he1 z1 e
      exact ⟨p, ys, rfl, k, tFA.step hs1 he1 q1 fun r2 w h2 y2 H2 g2 hs2 he2 z2 q2 => Cn.ok (v := xs ++ w) q2 he2 (pApp (ls.mono g2.pre) z2)⟩

/-! ### displays -/
theorem se_lst {es : List Expr} {g : Fr → Hv → Rs (List Va)} {pos : Pos} (h : PA X es (tFA M W g)) : PE X (.List es pos) (tF M W fun s h => (g s h).bind fun xs h1 => gd (Nat.ble xs.length Bnd) (newOb (.lst xs) h1)) :=
  PE.imp (pe_lst h) fun σ H Q ⟨r, s, h, hs, he, q⟩ => tFA.step hs he q fun r1 v h1 y H1 g1 hs1 he1 z1 q1 => by
    obtain ⟨hb, q1⟩ := q1.gd
    exact ⟨by rw [← z1.length]; exact bnd_line hb, fun p hp => q1.new he1 hp ⟨_, rfl, RVs.pre z1⟩⟩
theorem se_tup {es : List Expr} {g : Fr → Hv → Rs (List Va)} {x1 : _} {pos : Pos} (h : PA X es (tFA M W g)) : PE X (.Tuple es x1 pos) (tF M W fun s h => (g s h).bind fun xs h1 => gd (Nat.ble xs.length Bnd) (newOb (.tup xs) h1)) :=
  PE.imp (pe_tup h) fun σ H Q ⟨r, s, h, hs, he, q⟩ => tFA.step hs he q fun r1 v h1 y H1 g1 hs1 he1 z1 q1 => by
    obtain ⟨hb, q1⟩ := q1.gd
    exact ⟨by rw [← z1.length]; exact bnd_line hb, fun p hp => q1.new he1 hp ⟨_, rfl, RVs.pre z1⟩⟩

/-! ### built-ins -/
def CbS (M : Wd) (rr : List V → Hp → VK → Prop) (g : List Va → Hv → Rs Va) : Prop :=
  ∀ (E : XK) (r : List Addr) (h : Hv) (H : Hp) (vs : List Va) (xs : List V) (Q : VK), Emb M r h H → RVs M r vs xs → Cn M E r H (g vs h) (RV M) Q → rr xs H Q
/-- one value, two values -/
theorem vs1 {vs : List Va} {xs : List V} {Q : VK} {g : Va → Rs Va} (z : RVs M r vs xs) (q : Cn M E r H (one vs g) (RV M) Q) : ∃ v x, xs = [x] ∧ RV M r v x ∧ Cn M E r H (g v) (RV M) Q := by
  cases z with
  | nil => exact q.elim
  | cons z t =>
    cases t with
    | cons _ _ => exact q.elim
    | nil => exact ⟨_, _, rfl, z, q⟩
theorem vs2 {vs : List Va} {xs : List V} {Q : VK} {g : Va → Va → Rs Va} (z : RVs M r vs xs) (q : Cn M E r H (two vs g) (RV M) Q) : ∃ v w x y, xs = [x, y] ∧ RV M r v x ∧ RV M r w y ∧ Cn M E r H (g v w) (RV M) Q := by
  cases z with
  | nil => exact q.elim
  | cons z t =>
    cases t with
    | nil => exact q.elim
    | cons z2 t2 =>
      cases t2 with
      | cons _ _ => exact q.elim
      | nil => exact ⟨_, _, _, _, rfl, z, z2, q⟩
def rLen (K : PySem.W.Frag) : List V → Hp → VK → Prop := fun xs H Q => (∃ x n, xs = [x] ∧ LenV K x H n ∧ Q (.int n) H) ∨ ∃ a kvs, xs = [V.ref a] ∧ H a = some (.dK kvs) ∧ Q (.int kvs.length) H
theorem c_len : CallR X (.builtin "len") (rLen X.K) := CallR.or call_len call_lenD
theorem s_len (K : PySem.W.Frag) : CbS M (rLen K) (opBlt .len) := fun E r h H vs xs Q he z q => by
  obtain ⟨v, x, rfl, z, q⟩ := vs1 z q
  cases v with
  | str s =>
    obtain ⟨hb, q⟩ := Cn.gd (x := Rs.ok (Va.int s.length) h) q
    refine .inl ⟨x, s.length, rfl, ?_, q.ok he rfl⟩
    cases z
    exact ⟨by rw [str_len]; exact bnd_line hb, (str_len s).symm⟩
  | ref a =>
    have q : Cn M E r H (match h.rd a with
      | some (.lst xs) => .ok (.int xs.length) h
      | some (.tup xs) => .ok (.int xs.length) h
      | some (.dct xs) => (match h.get a with
        | some (.dct _) => .ok (.int xs.length) h
        | _ => .no)
      | _ => .no) (RV M) Q := by
      exact q
    split at q
    · rename_i ys e
      obtain ⟨p, ys, rfl, _, hl, ls⟩ := rd_lst he e z K
      refine .inl ⟨_, ys.length, rfl, .inl ⟨ys, hl, rfl⟩, ?_⟩
      rw [← ls.length]
      exact q.ok he rfl
    · rename_i ys e
      obtain ⟨p, ys, rfl, _, hl, ls⟩ := rd_tup he e z K
      refine .inl ⟨_, ys.length, rfl, .inr ⟨ys, hl, rfl⟩, ?_⟩
      rw [← ls.length]
      exact q.ok he rfl
    · rename_i kvs e
      split at q
      · rename_i kvs' e'
        obtain ⟨p, u, e1, e2, ys, rfl, ls⟩ := he.at_ _ _ e'
        obtain ⟨p', e3, rfl⟩ := z
        rw [e1] at e3
        cases e3
        have : kvs = kvs' := by
          unfold Hv.rd at e
          rw [e'] at e
          cases e
          rfl
        subst this
        refine .inr ⟨p, ys, rfl, e2, ?_⟩
        rw [← ls.length]
        exact q.ok he rfl
      · exact q.elim
    · exact q.elim
  | _ => exact q.elim
def rInt1 : List V → Hp → VK → Prop := fun xs H Q => (∃ i, xs = [.int i] ∧ Q (.int i) H) ∨ ∃ k, xs = [.bl k] ∧ Q (.int (if k then 1 else 0)) H
theorem s_int : CbS M rInt1 (opBlt .int) := fun E r h H vs xs Q he z q => by
  obtain ⟨v, x, rfl, z, q⟩ := vs1 z q
  cases v with
  | int i =>
    cases z
    exact .inl ⟨i, rfl, Cn.ok (v := Va.int i) q he rfl⟩
  | bl b =>
    cases z
    refine .inr ⟨b, rfl, ?_⟩
    rw [show (if b = true then (1 : Int) else 0) = b2n b by cases b <;> rfl]
    exact Cn.ok (v := Va.int (b2n b)) q he rfl
  | _ => exact q.elim
def rAbs : List V → Hp → VK → Prop := fun xs H Q => ∃ i, xs = [.int i] ∧ Q (.int (if i < 0 then -i else i)) H
theorem s_abs : CbS M rAbs (opBlt .abs) := fun E r h H vs xs Q he z q => by
  obtain ⟨v, x, rfl, z, q⟩ := vs1 z q
  cases v with
  | int i =>
    cases z
    refine ⟨i, rfl, ?_⟩
    have e : (if i < 0 then -i else i) = absI i := by
      cases i with
      | ofNat n =>
        rw [if_neg (by simp)]
        rfl
      | negSucc n =>
        rw [if_pos (by omega)]
        rfl
    rw [e]
    exact Cn.ok (v := Va.int (absI i)) q he rfl
  | _ => exact q.elim
def rMax2 : List V → Hp → VK → Prop := fun xs H Q => ∃ i j, xs = [.int i, .int j] ∧ Q (.int (if j > i then j else i)) H
def rMin2 : List V → Hp → VK → Prop := fun xs H Q => ∃ i j, xs = [.int i, .int j] ∧ Q (.int (if j < i then j else i)) H
theorem pick_ok (p : Prop) [Decidable p] (i j : Int) : (if p then j else i) = pick (decide p) i j := by
  by_cases c : p
  · rw [if_pos c, decide_eq_true c]
    rfl
  · rw [if_neg c, decide_eq_false c]
    rfl
theorem s_max : CbS M rMax2 (opBlt .max) := fun E r h H vs xs Q he z q => by
  obtain ⟨v, w, x, y, rfl, z1, z2, q⟩ := vs2 z q
  cases v with
  | int i =>
    cases w with
    | int j =>
      cases z1
      cases z2
      refine ⟨i, j, rfl, ?_⟩
      rw [pick_ok]
      exact Cn.ok (v := Va.int (pick (decide (i < j)) i j)) q he rfl
    | _ => exact q.elim
  | _ => exact q.elim
theorem s_min : CbS M rMin2 (opBlt .min) := fun E r h H vs xs Q he z q => by
  obtain ⟨v, w, x, y, rfl, z1, z2, q⟩ := vs2 z q
  cases v with
  | int i =>
    cases w with
    | int j =>
      cases z1
      cases z2
      refine ⟨i, j, rfl, ?_⟩
      rw [pick_ok]
      exact Cn.ok (v := Va.int (pick (decide (j < i)) i j)) q he rfl
    | _ => exact q.elim
  | _ => exact q.elim
def rList (K : PySem.W.Frag) : List V → Hp → VK → Prop := fun xs H Q => ∃ p ys, xs = [.ref p] ∧ (SqL K H p ys ∨ SqT K H p ys) ∧ ∀ l, H l = none → Q (.ref l) (upd H l (.lst ys))
theorem s_list (K : PySem.W.Frag) : CbS M (rList K) (opBlt .list) := fun E r h H vs xs Q he z q => by
  obtain ⟨v, x, rfl, z, q⟩ := vs1 z q
  cases v with
  | ref a =>
    have q : Cn M E r H (match h.rd a with
      | some (.lst xs) => newOb (.lst xs) h
      | some (.tup xs) => newOb (.lst xs) h
      | _ => .no) (RV M) Q := q
    split at q
    · rename_i ys e
      obtain ⟨p, ys, rfl, _, hl, ls⟩ := rd_lst he e z K
      exact ⟨p, ys, rfl, .inl hl, fun l hp => q.new he hp ⟨_, rfl, RVs.pre ls⟩⟩
    · rename_i ys e
      obtain ⟨p, ys, rfl, _, hl, ls⟩ := rd_tup he e z K
      exact ⟨p, ys, rfl, .inr hl, fun l hp => q.new he hp ⟨_, rfl, RVs.pre ls⟩⟩
    · exact q.elim
  | _ => exact q.elim
def rTuple (K : PySem.W.Frag) : List V → Hp → VK → Prop := fun xs H Q => ∃ p ys, xs = [.ref p] ∧ ((SqL K H p ys ∧ ∀ l, H l = none → Q (.ref l) (upd H l (.tup ys))) ∨ (SqT K H p ys ∧ Q (.ref p) H))
theorem s_tuple (K : PySem.W.Frag) : CbS M (rTuple K) (opBlt .tuple) := fun E r h H vs xs Q he z q => by
  obtain ⟨v, x, rfl, z, q⟩ := vs1 z q
  cases v with
  | ref a =>
    have q : Cn M E r H (match h.rd a with
      | some (.lst xs) => newOb (.tup xs) h
      | some (.tup _) => .ok (.ref a) h
      | _ => .no) (RV M) Q := q
    split at q
    · rename_i ys e
      obtain ⟨p, ys, rfl, _, hl, ls⟩ := rd_lst he e z K
      exact ⟨p, ys, rfl, .inl ⟨hl, fun l hp => q.new he hp ⟨_, rfl, RVs.pre ls⟩⟩⟩
    · rename_i ys e
      obtain ⟨p, ys, rfl, w1, hl, ls⟩ := rd_tup he e z K
      exact ⟨p, ys, rfl, .inr ⟨hl, Cn.ok (v := Va.ref a) q he ⟨p, w1, rfl⟩⟩⟩
    · exact q.elim
  | _ => exact q.elim
theorem allInt_ok : ∀ {vs : List Va} {xs : List V} {is : List Int}, RVs M r vs xs → allInt vs = some is → xs = is.map V.int
  | [], _, _, z, e => by
    cases e
    cases z
    rfl
  | v :: vs, _, is, z, e => by
    cases z with
    | cons z1 z2 =>
      cases v with
      | int i =>
        have e : (match allInt vs with
          | some is => some (i :: is)
          | none => none) = some is := e
        cases e2 : allInt vs with
        | none =>
          rw [e2] at e
          cases e
        | some js =>
          rw [e2] at e
          cases e
          rw [allInt_ok z2 e2]
          cases z1
          rfl
      | _ => cases e
theorem allBl_ok : ∀ {vs : List Va} {xs : List V} {is : List Bool}, RVs M r vs xs → allBl vs = some is → xs = is.map V.bl
  | [], _, _, z, e => by
    cases e
    cases z
    rfl
  | v :: vs, _, is, z, e => by
    cases z with
    | cons z1 z2 =>
      cases v with
      | bl i =>
        have e : (match allBl vs with
          | some is => some (i :: is)
          | none => none) = some is := e
        cases e2 : allBl vs with
        | none =>
          rw [e2] at e
          cases e
        | some js =>
          rw [e2] at e
          cases e
          rw [allBl_ok z2 e2]
          cases z1
          rfl
      | _ => cases e
theorem s_sum (K : PySem.W.Frag) : CbS M (rSum K) (opBlt .sum) := fun E r h H vs xs Q he z q => by
  obtain ⟨v, x, rfl, z, q⟩ := vs1 z q
  cases v with
  | ref a =>
    have q : Cn M E r H (match h.rd a with
      | some (.lst xs) => (match allInt xs with
        | some is => .ok (.int is.sum) h
        | none => .no)
      | _ => .no) (RV M) Q := q
    split at q
    · rename_i ys e
      obtain ⟨p, ys, rfl, _, hl, ls⟩ := rd_lst he e z K
      split at q
      · rename_i is e2
        rw [allInt_ok ls e2] at hl
        exact ⟨p, is, rfl, hl, Cn.ok (v := Va.int is.sum) q he rfl⟩
      · exact q.elim
    · exact q.elim
  | _ => exact q.elim
end
end MP
set_option linter.all false
set_option maxRecDepth 100000
set_option maxHeartbeats 4000000
/-! isinstance, fields, any, all. -/
namespace MP
open PySem L2
section
variable {X : Cx} {M : Wd} {T : Tb} {W : WX} {E : XK} {r : List Addr} {h : Hv} {H : Hp} {K : PySem.W.Frag}
theorem s_all (K : PySem.W.Frag) : CbS M (rAll K) (opBlt .all) := fun E r h H vs xs Q he z q => by
  obtain ⟨v, x, rfl, z, q⟩ := vs1 z q
  cases v with
  | ref a =>
    have q : Cn M E r H (match h.rd a with
      | some (.lst xs) => (match allBl xs with
        | some is => .ok (.bl (is.all id)) h
        | none => .no)
      | _ => .no) (RV M) Q := q
    split at q
    · rename_i ys e
      obtain ⟨p, ys, rfl, _, hl, ls⟩ := rd_lst he e z K
      split at q
      · rename_i is e2
        rw [allBl_ok ls e2] at hl
        exact ⟨p, is, rfl, hl, Cn.ok (v := Va.bl (is.all id)) q he rfl⟩
      · exact q.elim
    · exact q.elim
  | _ => exact q.elim
theorem s_any (K : PySem.W.Frag) : CbS M (rAny K) (opBlt .any) := fun E r h H vs xs Q he z q => by
  obtain ⟨v, x, rfl, z, q⟩ := vs1 z q
  cases v with
  | ref a =>
    have q : Cn M E r H (match h.rd a with
      | some (.lst xs) => (match allBl xs with
        | some is => .ok (.bl (is.any id)) h
        | none => .no)
      | _ => .no) (RV M) Q := q
    split at q
    · rename_i ys e
      obtain ⟨p, ys, rfl, _, hl, ls⟩ := rd_lst he e z K
      split at q
      · rename_i is e2
        rw [allBl_ok ls e2] at hl
        exact ⟨p, is, rfl, hl, Cn.ok (v := Va.bl (is.any id)) q he rfl⟩
      · exact q.elim
    · exact q.elim
  | _ => exact q.elim
/-- which built-in, which rule -/
def bName : Bf → Str
  | .len => "len"
  | .abs => "abs"
  | .max => "max"
  | .min => "min"
  | .int => "int"
  | .str => "str"
  | .sorted => "sorted"
  | .list => "list"
  | .tuple => "tuple"
  | .sum => "sum"
  | .all => "all"
  | .any => "any"
  | .dict => "dict"
  | .repr => "repr"
def rB (K : PySem.W.Frag) : Bf → List V → Hp → VK → Prop
  | .len => rLen K
  | .abs => rAbs
  | .max => rMax2
  | .min => rMin2
  | .int => rInt1
  | .list => rList K
  | .tuple => rTuple K
  | .sum => rSum K
  | .all => rAll K
  | .any => rAny K
  | _ => fun _ _ _ => False
theorem s_blt (K : PySem.W.Frag) (b : Bf) : CbS M (rB K b) (opBlt b) := by
  cases b with
  | len => exact s_len K
  | abs => exact s_abs
  | max => exact s_max
  | min => exact s_min
  | int => exact s_int
  | list => exact s_list K
  | tuple => exact s_tuple K
  | sum => exact s_sum K
  | all => exact s_all K
  | any => exact s_any K
  | _ => exact fun E r h H vs xs Q he z q => q
theorem se_callB {b : Bf} {id : String} {x : Str} {p pos : Pos} {e : Expr} {es : List Expr} {g : Fr → Hv → Rs (List Va)} (hb : x = bName b) (hc : CallR X (.builtin id) (rB X.K b)) (hg : Gl X x) (hm : X.mg x = none) (hv : bootBuiltins x = some (.builtin id)) (ha : PA X (e :: es) (tFA M W g)) (hp : (e :: es).all plainX = true)
    (hn : x ≠ "__name__") (hd : (x == ("__debug__" : Str)) = false) : PE X (.Call (.Name x p) (e :: es) [] pos) (tF M W fun s h => (g s h).bind fun vs h1 => opBlt b vs h1) := by
  rw [List.all_cons, Bool.and_eq_true] at hp
  exact PE.imp (pe_callB hc hg hm hv ha hn hd (starEach_plain es X.env hp.1) (noStar hp.2)) fun σ H Q ⟨r, s, h, hs, he, q⟩ => tFA.step hs he q fun r1 v h1 y H1 g1 hs1 he1 z1 q1 => s_blt X.K b _ r1 h1 H1 v y Q he1 z1 q1
theorem se_callTy {b : Bf} {T : String} {x : Str} {p pos : Pos} {e : Expr} {es : List Expr} {g : Fr → Hv → Rs (List Va)} (hb : x = bName b) (hc : CallR X (.type T) (rB X.K b)) (hg : Gl X x) (hm : X.mg x = none) (hv : bootBuiltins x = some (.type T)) (ha : PA X (e :: es) (tFA M W g)) (hp : (e :: es).all plainX = true)
    (hn : x ≠ "__name__") (hd : (x == ("__debug__" : Str)) = false) : PE X (.Call (.Name x p) (e :: es) [] pos) (tF M W fun s h => (g s h).bind fun vs h1 => opBlt b vs h1) := by
  rw [List.all_cons, Bool.and_eq_true] at hp
  exact PE.imp (pe_callTy hc hg hm hv ha hn hd (starEach_plain es X.env hp.1) (noStar hp.2)) fun σ H Q ⟨r, s, h, hs, he, q⟩ => tFA.step hs he q fun r1 v h1 y H1 g1 hs1 he1 z1 q1 => s_blt X.K b _ r1 h1 H1 v y Q he1 z1 q1
def bok : Bf → Bool
  | .str => false
  | .sorted => false
  | .dict => false
  | .repr => false
  | _ => true
theorem se_blt (b : Bf) (hk : bok b = true) {x : Str} {p pos : Pos} {e : Expr} {es : List Expr} {g : Fr → Hv → Rs (List Va)} (hx : x = bName b) (hc : X.calm = true) (hg : Gl X x) (hm : X.mg x = none) (ha : PA X (e :: es) (tFA M W g)) (hp : (e :: es).all plainX = true) :
    PE X (.Call (.Name x p) (e :: es) [] pos) (tF M W fun s h => (g s h).bind fun vs h1 => opBlt b vs h1) := by
  subst hx
  cases b with
  | len => exact se_callB rfl c_len hg hm (by rfl) ha hp (by decide) (by decide)
  | abs => exact se_callB rfl call_abs hg hm (by rfl) ha hp (by decide) (by decide)
  | max => exact se_callB rfl (call_max2 hc) hg hm (by rfl) ha hp (by decide) (by decide)
  | min => exact se_callB rfl (call_min2 hc) hg hm (by rfl) ha hp (by decide) (by decide)
  | int => exact se_callTy rfl call_int1 hg hm (by rfl) ha hp (by decide) (by decide)
  | list => exact se_callTy rfl call_list_of hg hm (by rfl) ha hp (by decide) (by decide)
  | tuple => exact se_callTy rfl call_tuple_of hg hm (by rfl) ha hp (by decide) (by decide)
  | sum => exact se_callB rfl (cr_sum hc) hg hm (by rfl) ha hp (by decide) (by decide)
  | all => exact se_callB rfl (cr_all hc) hg hm (by rfl) ha hp (by decide) (by decide)
  | any => exact se_callB rfl (cr_any hc) hg hm (by rfl) ha hp (by decide) (by decide)
  | _ => cases hk

/-! ### isinstance -/
def tyVal (M : Wd) : TyV → Value
  | .non => .type "NoneType"
  | .bl => .type "bool"
  | .int => .type "int"
  | .str => .type "str"
  | .lst => .type "list"
  | .tup => .type "tuple"
  | .dct => .type "dict"
  | .ins c => .ref (M.ca c)
  | .exc c => .ref (M.ca c)
def clVal (M : Wd) : TyC → Value
  | .verr => .type "ValueError"
  | .lerr => .type "LookupError"
  | .ierr => .type "IndexError"
  | .int => .type "int"
  | .bool => .type "bool"
  | .str => .type "str"
  | .list => .type "list"
  | .tuple => .type "tuple"
  | .cls c => .ref (M.ca c)
def clV (M : Wd) : TyC → V
  | .verr => .ty "ValueError"
  | .lerr => .ty "LookupError"
  | .ierr => .ty "IndexError"
  | .int => .ty "int"
  | .bool => .ty "bool"
  | .str => .ty "str"
  | .list => .ty "list"
  | .tuple => .ty "tuple"
  | .cls c => .ref (M.ca c)
theorem clV_ok (c : TyC) : ClsV (clV M c) (clVal M c) := by
  cases c with
  | cls c => exact .own _
  | _ => exact .ty _
/-- what the written part says of a class whose instances are asked -/
structure CFact (K : PySem.W.Frag) (C : Addr) : Prop where
  cl : Cls K C
  ha : PySem.W.findIn K (.ref C) "__class__" = some (some (.builtin "object.__class__"))
  hn : PySem.W.specialIn K (.builtin "object.__class__") "__get__" = some (some (.builtin "getset_descriptor.__get__"))
  ht : PySem.W.takesIn K (.builtin "object.__class__") = some true
  hm : PySem.W.mroIn K C (.type "object") = some true
/-- the tables are true of the written part -/
inductive TyY (K : PySem.W.Frag) (H : Hp) : V → Value → Prop where
  | base {x : V} {t : Value} (h : TyX K H x t) : TyY K H x t
  | exo {a C dx : Addr} {fs : List (Str × V)} (e : H a = some (exo a C (some dx))) (ed : H dx = some (exd dx fs)) (c : ExcC K C) : TyY K H (.ref a) (.ref C)
theorem kit_ofY {pins : List (Addr × Obj)} {σ : L2.St} {s : Shared} {x : V} {u t : Value} (I : Inv X pins σ H s) (rx : RelV x u) (ty : TyY X.K H x t) : ∃ P : Heap → Prop, PySem.W.KitX X.K u t P ∧ P s.heap ∧ u ≠ .builtin "__main__.__loader__#opaque" := by
  cases ty with
  | base b => exact kit_of I rx b
  | @exo a C dx fs e ed c =>
    cases (show u = Value.ref a from rx)
    obtain ⟨t1, ho⟩ := exo_at I.hok e
    obtain ⟨mA, ⟨oD, _, _, hoD, _⟩, _⟩ := exd_at I.hok ed
    obtain ⟨cd, hc, _⟩ := PySem.W.any_some c.hd
    exact ⟨_, PySem.W.kitx_exc (ox := { cls := .ref C, dict := some dx, data := .fields #[.ref t1, .none, .none, .none, .bool false, .none] }) (od := some oD) (by rw [hc]; rfl) c.hg c.hk c.hs c.ha c.hn c.ht c.hm, ⟨ho, rfl, rfl, hoD⟩, fun z => nomatch z⟩
def rIsiY (K : PySem.W.Frag) : List V → Hp → VK → Prop := fun xs H Q => ∃ (x c : V) (t u : Value) (b : Bool), xs = [x, c] ∧ ClsV c u ∧ TyY K H x t ∧ PySem.W.kitOne K t u = some b ∧ Q (.bl b) H
def rIsiTY (K : PySem.W.Frag) : List V → Hp → VK → Prop := fun xs H Q => ∃ (x : V) (tp : Addr) (cs : List V) (t : Value) (us : List Value) (b : Bool), xs = [x, .ref tp] ∧ H tp = some (.tup cs) ∧ Paired ClsV cs us ∧ TyY K H x t ∧ PySem.W.kitAny K t us = some b ∧ Q (.bl b) H
theorem call_isiY : CallR X (.builtin "isinstance") (rIsiY X.K) := by
  intro pins s σ H xs us Q I r h
  obtain ⟨x, c, t, u, b, rfl, k, ty, e, q⟩ := h
  obtain ⟨u1, u2, rfl, r1, r2⟩ := vals2 r
  have e2 := k.eq r2
  subst e2
  obtain ⟨P, Z, p, hx⟩ := kit_ofY I r1 ty
  exact PySem.W.kia_one Z I.kIn p e hx fun tk => ⟨.bl b, H, I.tok tk, rfl, q⟩
theorem call_isiTY : CallR X (.builtin "isinstance") (rIsiTY X.K) := by
  intro pins s σ H xs us Q I r h
  obtain ⟨x, tp, cs, t, ws, b, rfl, hT, k, ty, e, q⟩ := h
  obtain ⟨u1, u2, rfl, r1, r2⟩ := vals2 r
  cases (show u2 = Value.ref tp from r2)
  obtain ⟨P, Z, p, hx⟩ := kit_ofY I r1 ty
  obtain ⟨_, its, rv, o, h1, h2, n, h3⟩ := (show ObjOk X.prog X.w H s.heap tp (.tup cs) from I.hok tp _ hT)
  have e3 := ClsV.all k rv
  subst e3
  obtain ⟨oc, od, dt, sl⟩ := o
  simp only at h2 h3
  subst h2 h3
  exact PySem.W.kia_tup Z I.kIn p h1 e hx fun tk => ⟨.bl b, H, I.tok tk, rfl, q⟩
structure TOk (T : Tb) (M : Wd) (K : PySem.W.Frag) : Prop where
  exc : ∀ c d b, T.kit (.exc c) d = some b → ExcC K (M.ca c)
  xfl : ∀ c f, T.xfl c f = true → XfC K (M.ca c) ∧ PySem.W.findIn K (.ref (M.ca c)) (M.an f) = some none
  kit : ∀ y c b, T.kit y c = some b → PySem.W.kitOne K (tyVal M y) (clVal M c) = some b
  cls : ∀ c, T.okC c = true → CFact K (M.ca c)
  kitC : ∀ c d b, T.kit (.ins c) d = some b → T.okC c = true
  fld : ∀ c f, T.fld c f = true → T.okC c = true ∧ NoAttr K (M.ca c) (M.an f)
theorem xAt_ok (he : Emb M r h H) {a c : Nat} {fs : List (Nat × Va)} {y : V} (e : xAt h a = some (c, fs)) (z : RV M r (.ref a) y) : ∃ p dx ys, y = .ref p ∧ r[a]? = some p ∧ H p = some (exo p (M.ca c) (some dx)) ∧ H dx = some (exd dx ys) ∧ RFs M r fs ys := by
  unfold xAt at e
  split at e
  · rename_i a' c' d q1
    split at e
    · rename_i k1
      split at e
      · rename_i d' fs' q2
        split at e
        · rename_i k2
          cases e
          have h1 := Nat.eq_of_beq_eq_true k1
          have h2 := Nat.eq_of_beq_eq_true k2
          subst h1 h2
          obtain ⟨p, u, e1, e2, p1, dx, e3, e4, rfl⟩ := he.at_ _ _ q1
          obtain ⟨p2, u2, e5, e6, dx2, ys, e7, rfl, ls⟩ := he.at_ _ _ q2
          obtain ⟨p', e8, rfl⟩ := z
          rw [e1] at e8 e3
          cases e8
          cases e3
          rw [e4] at e5 e7
          cases e5
          cases e7
          exact ⟨p, dx, ys, rfl, e1, e2, e6, ls⟩
        · cases e
      · cases e
    · cases e
  · cases e
theorem tyOf_ok (tk : TOk T M K) (he : Emb M r h H) {v : Va} {x : V} (z : RV M r v x) {y : TyV} (e : tyOf v h = some y) {c : TyC} {b : Bool} (k : T.kit y c = some b) : TyY K H x (tyVal M y) := by
  cases v with
  | non =>
    cases e
    cases z
    exact .base (.base .non)
  | bl b =>
    cases e
    cases z
    exact .base (.base (.bl b))
  | int i =>
    cases e
    cases z
    exact .base (.base (.int i))
  | tok t =>
    obtain ⟨_, rfl⟩ := z
    cases e
    exact .base (.base (.str _))
  | str s =>
    cases e
    cases z
    exact .base (.base (.str _))
  | ref a =>
    have e : (match h.rd a with
      | some (.lst _) => some TyV.lst
      | some (.tup _) => some .tup
      | some (.dct _) => some .dct
      | some (.ins c _) => (match h.get a with
        | some (.ins _ _) => some (.ins c)
        | _ => none)
      | some (.exo _ _ _) => xty h a
      | _ => none) = some y := e
    split at e
    · rename_i xs q
      cases e
      obtain ⟨p, u, e1, e2, ys, rfl, ls⟩ := he.rd q
      obtain ⟨p', e3, rfl⟩ := z
      rw [e1] at e3
      cases e3
      rcases e2 with e2 | ⟨ob, e2⟩
      · exact .base (.base (.lst e2))
      · exact .base (.base (.frz e2))
    · rename_i xs q
      cases e
      obtain ⟨p, u, e1, e2, ys, rfl, ls⟩ := he.rd q
      obtain ⟨p', e3, rfl⟩ := z
      rw [e1] at e3
      cases e3
      rcases e2 with e2 | ⟨ob, e2⟩
      · exact .base (.base (.tup e2))
      · exact .base (.fTuple e2)
    · rename_i xs q
      cases e
      obtain ⟨p, u, e1, e2, ys, rfl, ls⟩ := he.rd q
      obtain ⟨p', e3, rfl⟩ := z
      rw [e1] at e3
      cases e3
      rcases e2 with e2 | ⟨ob, e2⟩
      · exact .base (.base (.dK e2))
      · exact .base (.fDict e2)
    · rename_i c0 fs0 q
      split at e
      · rename_i c' fs q'
        have : c0 = c' := by
          unfold Hv.rd at q
          rw [q'] at q
          cases q
          rfl
        subst this
        cases e
        have hc := tk.cls _ (tk.kitC _ _ _ k)
        obtain ⟨p, u, e1, e2, dx, ys, rfl, ls⟩ := he.at_ _ _ q'
        obtain ⟨p', e3, rfl⟩ := z
        rw [e1] at e3
        cases e3
        exact .base (.base (.ins e2 hc.cl hc.ha hc.hn hc.ht hc.hm))
      · cases e
    · unfold xty at e
      cases q : xAt h a with
      | none =>
        rw [q] at e
        cases e
      | some cf =>
        obtain ⟨c0, fs⟩ := cf
        rw [q] at e
        cases e
        obtain ⟨p, dx, ys, rfl, _, e1, e2, _⟩ := xAt_ok he q z
        exact .exo e1 e2 (tk.exc _ _ _ k)
    · cases e
  | _ => cases e
/-- a class's name -/
abbrev PCl (X : Cx) (M : Wd) (e : Expr) (t : TyC) : Prop := PE X e (tC (clV M t))
theorem kitAny_of (tk : TOk T M K) (he : Emb M r h H) {v : Va} {x : V} (z : RV M r v x) : ∀ {ts : List TyC} {b : Bool}, anyTy T v h ts = some b → ts ≠ [] → ∃ y, TyY K H x (tyVal M y) ∧ PySem.W.kitAny K (tyVal M y) (ts.map (clVal M)) = some b
  | [], _, _, n => absurd rfl n
  | t :: ts, b, e, _ => by
    have e : (match ofTy T v h t with
      | none => none
      | some true => some true
      | some false => anyTy T v h ts) = some b := e
    unfold ofTy at e
    cases q : tyOf v h with
    | none =>
      rw [q] at e
      cases e
    | some y =>
      rw [q] at e
      have e : (match T.kit y t with
        | none => none
        | some true => some true
        | some false => anyTy T v h ts) = some b := e
      cases k : T.kit y t with
      | none =>
        rw [k] at e
        cases e
      | some c =>
        rw [k] at e
        have ty := tyOf_ok tk he z q k
        have k1 := tk.kit _ _ _ k
        cases c with
        | true =>
          cases e
          refine ⟨y, ty, ?_⟩
          show (match PySem.W.kitOne K (tyVal M y) (clVal M t) with
            | some true => some true
            | some false => PySem.W.kitAny K (tyVal M y) (ts.map (clVal M))
            | none => none) = some true
          rw [k1]
        | false =>
          have e : anyTy T v h ts = some b := e
          have hts : ts = [] ∨ ts ≠ [] := by
            cases ts with
            | nil => exact .inl rfl
            | cons _ _ => exact .inr (List.cons_ne_nil _ _)
          have step : PySem.W.kitAny K (tyVal M y) ((t :: ts).map (clVal M)) = PySem.W.kitAny K (tyVal M y) (ts.map (clVal M)) := by
            show (match PySem.W.kitOne K (tyVal M y) (clVal M t) with
              | some true => some true
              | some false => PySem.W.kitAny K (tyVal M y) (ts.map (clVal M))
              | none => none) = _
            rw [k1]
          rcases hts with rfl | n
          · cases e
            exact ⟨y, ty, by rw [step]; rfl⟩
          · have : ∀ {ts : List TyC} {b : Bool}, anyTy T v h ts = some b → PySem.W.kitAny K (tyVal M y) (ts.map (clVal M)) = some b := fun {ts} => by
              induction ts with
              | nil =>
                intro b e
                cases e
                rfl
              | cons t2 ts ih =>
                intro b e
                have e : (match ofTy T v h t2 with
                  | none => none
                  | some true => some true
                  | some false => anyTy T v h ts) = some b := e
                unfold ofTy at e
                rw [q] at e
                have e : (match T.kit y t2 with
                  | none => none
                  | some true => some true
                  | some false => anyTy T v h ts) = some b := e
                show (match PySem.W.kitOne K (tyVal M y) (clVal M t2) with
                  | some true => some true
                  | some false => PySem.W.kitAny K (tyVal M y) (ts.map (clVal M))
                  | none => none) = _
                cases k2 : T.kit y t2 with
                | none =>
                  rw [k2] at e
                  cases e
                | some c =>
                  rw [k2] at e
                  rw [tk.kit _ _ _ k2]
                  cases c with
                  | true =>
                    cases e
                    rfl
                  | false => exact ih e
            exact ⟨y, ty, by rw [step]; exact this e⟩
theorem isi_bl {v : Va} {h1 : Hv} {ts : List TyC} {Q : VK} (q : Cn M E r H (bl (toB (anyTy T v h1 ts) h1)) (RV M) Q) : ∃ b, anyTy T v h1 ts = some b ∧ Cn M E r H (.ok (Va.bl b) h1) (RV M) Q := by
  cases e : anyTy T v h1 ts with
  | none =>
    rw [e] at q
    exact q.elim
  | some b =>
    rw [e] at q
    exact ⟨b, rfl, q⟩
def fIsi (T : Tb) (ts : List TyC) (f : Fr → Hv → Rs Va) : Fr → Hv → Rs Va := fun s h => (f s h).bind fun x h1 => bl (toB (anyTy T x h1 ts) h1)
theorem se_isi (tk : TOk T M X.K) {a c : Expr} {p pos : Pos} {t : TyC} {f : Fr → Hv → Rs Va} (hg : Gl X "isinstance") (hm : X.mg "isinstance" = none) (ha : PE X a (tF M W f)) (hc : PCl X M c t) (pa : plainX a = true) (pc : plainX c = true) : PE X (.Call (.Name "isinstance" p) [a, c] [] pos) (tF M W (fIsi T [t] f)) :=
  PE.imp (pe_callB call_isiY hg hm (by rfl) (pa_cons ha (pa_cons hc pa_nil (starEach_plain [] X.env pc)) (starEach_plain [c] X.env pa)) (by decide) (by decide) (starEach_plain [c] X.env pa) (noStar (by rw [List.all_cons, pc]; rfl)))
    fun σ H Q ⟨r, s, h, hs, he, q⟩ => tF.step hs he q fun r1 v h1 y H1 g1 hs1 he1 z1 q1 => by
      obtain ⟨b, e, q1⟩ := isi_bl q1
      obtain ⟨y', ty, k⟩ := kitAny_of tk he1 z1 e (List.cons_ne_nil _ _)
      refine ⟨y, clV M t, tyVal M y', clVal M t, b, rfl, clV_ok t, ty, ?_, q1.ok he1 rfl⟩
      have k : (match PySem.W.kitOne X.K (tyVal M y') (clVal M t) with
        | some true => some true
        | some false => some false
        | none => none) = some b := k
      cases e2 : PySem.W.kitOne X.K (tyVal M y') (clVal M t) with
      | none =>
        rw [e2] at k
        cases k
      | some c =>
        rw [e2] at k
        cases c <;> exact k
/-- several classes' names -/
theorem pcls {cs : List Expr} {ts : List TyC} (h : Paired (fun c t => PCl X M c t ∧ plainX c = true) cs ts) : PA X cs (fun _ H Q => Q (ts.map (clV M)) H) := by
  induction h with
  | nil => exact pa_nil
  | cons a t ih => exact pa_cons a.1 ih (starEach_plain _ X.env a.2)
theorem se_isiT (tk : TOk T M X.K) {a : Expr} {cs : List Expr} {x1 : _} {p pos tpos : Pos} {ts : List TyC} {f : Fr → Hv → Rs Va} (hg : Gl X "isinstance") (hm : X.mg "isinstance" = none) (ha : PE X a (tF M W f)) (hc : Paired (fun c t => PCl X M c t ∧ plainX c = true) cs ts) (hn : ts ≠ []) (hl : Nat.ble ts.length Bnd = true) (pa : plainX a = true) :
    PE X (.Call (.Name "isinstance" p) [a, .Tuple cs x1 tpos] [] pos) (tF M W (fIsi T ts f)) :=
  PE.imp (pe_callB call_isiTY hg hm (by rfl) (pa_cons ha (pa_cons (pe_tup (pcls hc)) pa_nil (by rfl)) (starEach_plain _ X.env pa)) (by decide) (by decide) (starEach_plain _ X.env pa) (by rfl))
    fun σ H Q ⟨r, s, h, hs, he, q⟩ => tF.step hs he q fun r1 v h1 y H1 g1 hs1 he1 z1 q1 => by
      obtain ⟨b, e, q1⟩ := isi_bl q1
      refine ⟨by rw [List.length_map]; exact bnd_line hl, fun tp hp => ?_⟩
      have g := he1.laid (u := .tup (ts.map (clV M))) hp
      obtain ⟨y', ty, k⟩ := kitAny_of tk g.emb z1 e hn
      refine ⟨y, tp, ts.map (clV M), tyVal M y', ts.map (clVal M), b, rfl, upd_same, ?_, ty, k, q1.okG g rfl⟩
      have go : ∀ l : List TyC, Paired ClsV (l.map (clV M)) (l.map (clVal M)) := fun l => by
        induction l with
        | nil => exact .nil
        | cons c l ih => exact .cons (clV_ok c) ih
      exact go ts

/-! ### fields -/
theorem lookF_ok (M : Wd) {fs : List (Nat × Va)} {ys : List (Str × V)} {f : Nat} {v : Va} (p : RFs M r fs ys) (e : lookF f fs = some v) : ∃ x, ys.lookup (M.an f) = some x ∧ RV M r v x := by
  induction p with
  | nil => cases e
  | cons a t ih =>
    rename_i p q ps qs
    unfold lookF at e
    cases c : Nat.beq p.1 f with
    | true =>
      rw [c] at e
      cases e
      have := Nat.eq_of_beq_eq_true c
      subst this
      obtain ⟨g, x⟩ := q
      have a1 : g = M.an p.1 := a.1
      subst a1
      exact ⟨x, by simp, a.2⟩
    | false =>
      rw [c] at e
      have n : M.an f ≠ M.an p.1 := fun z => Nat.ne_of_beq_eq_false c (M.inj _ _ z.symm)
      obtain ⟨g, x⟩ := q
      have a1 : g = M.an p.1 := a.1
      subst a1
      obtain ⟨y, e1, z⟩ := ih e
      refine ⟨y, ?_, z⟩
      rw [List.lookup_cons]
      rw [show (M.an f == M.an p.1) = false by simpa using n]
      exact e1
theorem lookF_no (M : Wd) {fs : List (Nat × Va)} {ys : List (Str × V)} {f : Nat} (p : RFs M r fs ys) (e : lookF f fs = none) : ys.lookup (M.an f) = none := by
  induction p with
  | nil => rfl
  | cons a t ih =>
    rename_i p q ps qs
    unfold lookF at e
    cases c : Nat.beq p.1 f with
    | true =>
      rw [c] at e
      cases e
    | false =>
      rw [c] at e
      have n : M.an f ≠ M.an p.1 := fun z => Nat.ne_of_beq_eq_false c (M.inj _ _ z.symm)
      obtain ⟨g, x⟩ := q
      have a1 : g = M.an p.1 := a.1
      subst a1
      rw [List.lookup_cons]
      rw [show (M.an f == M.an p.1) = false by simpa using n]
      exact ih e
theorem putFl_ok (M : Wd) {fs : List (Nat × Va)} {ys : List (Str × V)} {f : Nat} {v : Va} {x : V} (p : RFs M r fs ys) (z : RV M r v x) : RFs M r (putFl f v fs) (putF (M.an f) x ys) := by
  induction p with
  | nil => exact .cons ⟨rfl, z⟩ .nil
  | cons a t ih =>
    rename_i p q ps qs
    obtain ⟨g, y⟩ := q
    have a1 : g = M.an p.1 := a.1
    subst a1
    unfold putFl
    show RFs M r _ (if M.an p.1 = M.an f then (M.an p.1, x) :: qs else (M.an p.1, y) :: putF (M.an f) x qs)
    cases c : Nat.beq p.1 f with
    | true =>
      have := Nat.eq_of_beq_eq_true c
      subst this
      rw [if_pos rfl]
      exact .cons ⟨rfl, z⟩ t
    | false =>
      rw [if_neg fun k => Nat.ne_of_beq_eq_false c (M.inj _ _ k)]
      exact .cons ⟨rfl, a.2⟩ ih
theorem get_ins (e0 : Emb M r h H) {a c : Nat} {fs : List (Nat × Va)} {y : V} (e : h.get a = some (.ins c fs)) (z : RV M r (.ref a) y) : ∃ p dx ys, y = .ref p ∧ r[a]? = some p ∧ H p = some (.ins (M.ca c) dx ys) ∧ RFs M r fs ys := by
  obtain ⟨p, u, e1, e2, dx, ys, rfl, q⟩ := e0.at_ a _ e
  obtain ⟨p', e3, rfl⟩ := z
  rw [e1] at e3
  cases e3
  exact ⟨p, dx, ys, rfl, e1, e2, q⟩
end
end MP
set_option linter.all false
set_option maxRecDepth 100000
set_option maxHeartbeats 4000000
/-! Calls: defs, methods, new instances, properties. -/
namespace MP
open PySem L2
/-! ### o is no bare super() -/
def supB : Expr → Bool
  | .Call (.Name id _) [] [] _ => id != "super"
  | _ => true
theorem attrB {o : Expr} {f : Str} {env : Env} {t : Sem Value} (h : supB o = true) : attributeBase o f env t = t := by
  unfold attributeBase
  split
  · rename_i id p pos
    have h : (id != "super") = true := h
    rw [h]
    exact if_pos rfl
  · rfl
theorem callM {o : Expr} {name : Str} {apos pos : Pos} {args : List Expr} {env : Env} (hs : supB o = true) (hl : (apos.endLine == pos.line) = true) (hp : args.all plainX = true) (hn : Nat.blt args.length 30 = true) :
    eval (.Call (.Attribute o name apos) args [] pos) env = (do
      let ov ← eval o env
      standAt apos.atName
      let (f, first) ← holding [ov] (getMethod ov name (do return (← importBound o env).getD true))
      callWith pos f first (backTo pos (starEach args env)) (backToKw pos (keywordEach [] env))) := by
  have few : methodCallForm (args.length + ([] : List Keyword).length) (backTo pos (starEach args env)) (backToKw pos (keywordEach [] env)) = true := by
    unfold methodCallForm
    have h1 : (backTo pos (starEach args env)).all (fun x => !x.1) = true := by
      rw [List.all_eq_not_any_not]
      have := noStar (es := args) (env := env) (pos := pos) hp
      simp only [Bool.not_not]
      rw [this]
      rfl
    rw [h1]
    have h2 : args.length < 30 := Nat.le_of_ble_eq_true hn
    show (true && true && decide (args.length + 0 + 0 < 30)) = true
    simpa using h2
  show (do
    let ov ← attributeBase o name env (eval o env)
    standAt apos.atName
    methodCall o name apos pos env ov (args.length + ([] : List Keyword).length) (backTo pos (starEach args env)) (backToKw pos (keywordEach [] env))) = _
  rw [attrB hs]
  unfold methodCall calleeOf methodCallPos
  rw [few, hl]
  rfl

section
variable {X : Cx} {M : Wd} {W : WX} {T : Tb} {r : List Addr} {h : Hv} {H : Hp} {K : PySem.W.Frag} {k : Nat} {f : Addr} {fd : FuncData} {ps : List Str} {n : Nat} {g : List Va → Hv → Rs Va}
/-- a def's promise by a small function of n arguments -/
def spO (M : Wd) (n : Nat) (g : List Va → Hv → Rs Va) : Sp := fun vs H Q E => vs.length = n ∧ ∃ r us h, Emb M r h H ∧ RVs M r us vs ∧ Cn M E r H (g us h) (RV M) Q
abbrev FnS (X : Cx) (M : Wd) (k : Nat) (f : Addr) (fd : FuncData) (ps : List Str) (n : Nat) (g : List Va → Hv → Rs Va) : Prop := FnOk X.prog X.w X.K X.mg X.base (L2.CX X.prog X.w) k f fd ps (spO M n g)
/-- the defaults of a call, small and great -/
structure Dfs (M : Wd) (K : PySem.W.Frag) (fd : FuncData) (ps : List Str) (sd : List Va) : Prop where
  ex : ∃ ds dvs, Binds K fd ps ds ∧ Vals dvs ds ∧ RVs M [] sd dvs
/-- a call with keywords: n by place, ks by name, the defaults ds -/
def KwD (M : Wd) (K : PySem.W.Frag) (fd : FuncData) (ps : List Str) (n : Nat) (ks : List Nat) (ds : List Va) : Prop := ∃ (mv : List Value) (dvs : List V), KBn K fd ps n (ks.map M.an) (fun us ws => us ++ ws ++ mv) (fun us ws => us ++ ws ++ dvs) ∧ RVs M [] ds dvs
/-- a def that keeps its small function -/
structure DOk (P : Program) (w : World) (K : PySem.W.Frag) (mg : Str → Option Value) (base : Heap) (T : Tb) (M : Wd) (O : Orc) (f : Nat) : Prop where
  ex : ∃ fd ps, FnOk P w K mg base (L2.CX P w) (T.lv f) (M.fa f) fd ps (spO M (T.ar f) (O f)) ∧ (∀ j, j ≤ (T.dfl f).length - (T.ar f - T.pos f) → Dfs M K fd ps ((T.dfl f).drop j)) ∧ ∀ n ks ds, (n, ks, ds) ∈ T.kwo f → KwD M K fd ps n ks ds
  kp : PySem.W.keepIn K (.ref (M.fa f)) = true
abbrev DAt (X : Cx) (T : Tb) (M : Wd) (O : Orc) (f : Nat) : Prop := DOk X.prog X.w X.K X.mg X.base T M O f
/-- known if it stands below -/
abbrev DBl (X : Cx) (T : Tb) (M : Wd) (O : Orc) (f : Nat) : Prop := T.lv f < T.cur → DAt X T M O f
theorem callF_ok {O : Orc} {d f : Nat} {vs : List Va} {E : XK} {Q : VK} (q : Cn M E r H (callF T O d f vs h) (RV M) Q) : T.lv f + d < T.cur ∧ ∃ j, j ≤ (T.dfl f).length - (T.ar f - T.pos f) ∧ (vs ++ (T.dfl f).drop j).length = T.ar f ∧ Cn M E r H (O f (vs ++ (T.dfl f).drop j) h) (RV M) Q := by
  unfold callF at q
  cases e : Nat.blt (T.lv f + d) T.cur && ((Nat.ble vs.length (T.ar f) && Nat.ble vs.length (T.pos f)) && Nat.ble (T.ar f - vs.length) (T.dfl f).length) with
  | false =>
    rw [e] at q
    exact q.elim
  | true =>
    rw [e] at q
    rw [Bool.and_eq_true, Bool.and_eq_true, Bool.and_eq_true] at e
    have e0 : T.lv f + d < T.cur := Nat.le_of_ble_eq_true e.1
    have e1 := Nat.le_of_ble_eq_true e.2.1.1
    have e3 := Nat.le_of_ble_eq_true e.2.1.2
    have e2 := Nat.le_of_ble_eq_true e.2.2
    refine ⟨e0, _, by omega, ?_, q⟩
    rw [List.length_append, List.length_drop]
    omega
theorem room_of {A : Around} {d f : Nat} (hr : Room (T.cur - 1) A) (h : T.lv f + d < T.cur) : Room (T.lv f + d) A := hr.mono (by omega)
theorem spO_at {g : List Va → Hv → Rs Va} {vs : List Va} {ys : List V} {sd : List Va} {dvs : List V} {E : XK} {Q : VK} (he : Emb M r h H) (z : RVs M r vs ys) (zd : RVs M [] sd dvs) (hl : (vs ++ sd).length = n) (q : Cn M E r H (g (vs ++ sd) h) (RV M) Q) : spO M n g (ys ++ dvs) H Q E := by
  have z2 := pApp z (zd.mono List.nil_prefix)
  exact ⟨by rw [← z2.length]; exact hl, r, _, h, he, z2, q⟩
/-- such a def runs -/
theorem DBl.run {X : Cx} {W : WX} {O : Orc} {f : Nat} (D : DBl X T M O f) (hr : Room (T.cur - 1) X.A) (tk : Takes X W) {pins : List (Addr × Obj)} {σ : L2.St} {H : Hp} {s : Shared} {us : List Value} {vs : List Va} {ys : List V} {r : List Addr} {h : Hv} {Q : VK} (I : Inv X pins σ H s) (rv : Vals ys us)
    (he : Emb M r h H) (z : RVs M r vs ys) (q : Cn M (XAt W σ) r H (callF T O 0 f vs h) (RV M) Q) : wpAny (model X.prog X.w) X.A (call (.ref (M.fa f)) us) (EP X pins σ Q) X.xe s := by
  obtain ⟨lt, j, hj, hl, q⟩ := callF_ok q
  obtain ⟨fd, ps, F, hd, _⟩ := (D lt).ex
  obtain ⟨ds, dvs, hb, hv, zd⟩ := (hd j hj).ex
  exact run_fnSD (E := fun σ => XAt W σ) F (room_of hr lt) hb hv (passAt tk σ) I rv (spO_at he z zd hl q)
/-- what args give, kept -/
abbrev AK (T : Tb) (M : Wd) (W : WX) (O : Orc) (f : Nat) (σ : L2.St) (Q : VK) (pre : List Va) : List V → Hp → Prop := fun ys H1 => ∃ r1 vs h1, Emb M r1 h1 H1 ∧ RVs M r1 vs ys ∧ Cn M (XAt W σ) r1 H1 (callF T O 0 f (pre ++ vs) h1) (RV M) Q
theorem se_call {O : Orc} {f : Nat} {x : Str} {p pos : Pos} {e : Expr} {es : List Expr} {ga : Fr → Hv → Rs (List Va)} (D : DBl X T M O f) (hr : Room (T.cur - 1) X.A) (hk : PySem.W.keepIn X.K (.ref (M.fa f)) = true) (hg : Gl X x) (hm : X.mg x = some (.ref (M.fa f))) (tk : Takes X W)
    (ha : PA X (e :: es) (tFA M W ga)) (hp : (e :: es).all plainX = true) (hd : (x == ("__debug__" : Str)) = false) : PE X (.Call (.Name x p) (e :: es) [] pos) (tF M W fun s h => (ga s h).bind fun vs h1 => callF T O 0 f vs h1) := by
  refine ⟨fun pins s σ H Q I ⟨r, sm, h, hs, he, q⟩ => ?_⟩
  refine wpAny_Call_Name_kw (ld_glob I hg hm ?_ hd)
  have run := ha.run pos pins s σ H (AK T M W O f σ Q []) I (tFA.step hs he q fun r1 v h1 y H1 g1 hs1 he1 z1 q1 => ⟨r1, v, h1, he1, z1, q1⟩)
  rw [List.all_cons, Bool.and_eq_true] at hp
  exact PySem.W.callWith_K (h₀ := X.base) I.ok.mod.kin hk (thn run fun us s1 ⟨ys, H1, I1, rv, r1, vs, h1, he1, z1, q1⟩ => ⟨I1.kIn, D.run hr tk I1 rv he1 z1 q1⟩) (starEach_plain es X.env hp.1) (noStar hp.2)
theorem se_call0 {O : Orc} {f : Nat} {x : Str} {p pos : Pos} (D : DBl X T M O f) (hr : Room (T.cur - 1) X.A) (hk : PySem.W.keepIn X.K (.ref (M.fa f)) = true) (hg : Gl X x) (hm : X.mg x = some (.ref (M.fa f))) (tk : Takes X W) (hd : (x == ("__debug__" : Str)) = false) : PE X (.Call (.Name x p) [] [] pos) (tF M W fun s h => callF T O 0 f [] h) := by
  refine ⟨fun pins s σ H Q I ⟨r, sm, h, hs, he, q⟩ => ?_⟩
  refine wpAny_Call_Name_kw (ld_glob I hg hm ?_ hd)
  exact PySem.W.callWith_K0 I.kIn hk (D.run (vs := []) (ys := []) hr tk I .nil he .nil q)

/-! ### methods -/
/-- a method of a class -/
structure MOk (K : PySem.W.Frag) (M : Wd) (c m g : Nat) : Prop where
  cl : Cls K (M.ca c)
  mt : Meth K (M.ca c) (M.an m) (M.fa g)
theorem se_meth {O : Orc} {m : Nat} {o e : Expr} {es : List Expr} {apos pos : Pos} {fo : Fr → Hv → Rs Va} {ga : Fr → Hv → Rs (List Va)} (ho : PE X o (tF M W fo)) (hm : ∀ c g, T.met c m = some g → MOk X.K M c m g ∧ DBl X T M O g) (hr : Room (T.cur - 1) X.A) (tk : Takes X W)
    (ha : PA X (e :: es) (tFA M W ga)) (hp : (e :: es).all plainX = true) (hsu : supB o = true) (hl : (apos.endLine == pos.line) = true) (hn : Nat.blt (e :: es).length 30 = true) :
    PE X (.Call (.Attribute o (M.an m) apos) (e :: es) [] pos) (tF M W fun s h => (fo s h).bind fun x h1 => match x with
      | .ref p => (match h1.get p with
        | some (.ins c fs) => (match T.met c m with
          | some g => (match lookF m fs with
            | none => (ga s h1).bind fun vs h2 => callF T O 0 g (.ref p :: vs) h2
            | some _ => .no)
          | none => .no)
        | _ => .no)
      | _ => .no) := by
  refine ⟨fun pins s σ H Q I ⟨r, sm, h, hs, he, q⟩ => ?_⟩
  have run := ho.run pins s σ H (fun x H1 => ∃ r1 h1 a p c g dx ys, x = .ref p ∧ RF M r1 sm σ ∧ Emb M r1 h1 H1 ∧ r1[a]? = some p ∧ H1 p = some (.ins (M.ca c) dx ys) ∧ ys.lookup (M.an m) = none ∧ T.met c m = some g ∧
    Cn M (XAt W σ) r1 H1 ((ga sm h1).bind fun vs h2 => callF T O 0 g (.ref a :: vs) h2) (RV M) Q) I (tF.step hs he q fun r1 v h1 y H1 g1 hs1 he1 z1 q1 => by
      cases v with
      | ref a =>
        have q1 : Cn M (XAt W σ) r1 H1 (match h1.get a with
          | some (.ins c fs) => (match T.met c m with
            | some g => (match lookF m fs with
              | none => (ga sm h1).bind fun vs h2 => callF T O 0 g (.ref a :: vs) h2
              | some _ => .no)
            | none => .no)
          | _ => .no) (RV M) Q := q1
        split at q1
        · rename_i c fs e1
          obtain ⟨p, dx, ys, rfl, hp, hh, ls⟩ := get_ins he1 e1 z1
          split at q1
          · rename_i g e2
            split at q1
            · rename_i e3
              exact ⟨r1, h1, a, p, c, g, dx, ys, rfl, hs1, he1, hp, hh, lookF_no M ls e3, e2, q1⟩
            · exact q1.elim
          · exact q1.elim
        · exact q1.elim
      | _ => exact q1.elim)
  refine PySem.W.methodCall_KW (pl := _) (thn run fun u s1 ⟨x, H1, I1, rx, r1, h1, a, p, c, g, dx, ys, ex, hs1, he1, hpa, hh, hno, hmt, q1⟩ => ?_) (callM hsu hl hp hn)
  subst ex
  obtain rfl : u = Value.ref p := rx
  obtain ⟨K1, D⟩ := hm c g hmt
  refine getmeth_ok I1 hh K1.cl K1.mt hno ?_
  have run2 := ha.run pos pins s1 σ H1 (fun ys H2 => ∃ r2 vs h2, Emb M r2 h2 H2 ∧ RVs M r2 (.ref a :: vs) (.ref p :: ys) ∧ Cn M (XAt W σ) r2 H2 (callF T O 0 g (.ref a :: vs) h2) (RV M) Q) I1 (tFA.step hs1 he1 q1 fun r2 v h2 y H2 g2 hs2 he2 z2 q2 => ⟨r2, v, h2, he2, .cons ⟨p, pre_get g2.pre hpa, rfl⟩ z2, q2⟩)
  rw [List.all_cons, Bool.and_eq_true] at hp
  exact PySem.W.callWith_K (first := [.ref p]) (h₀ := X.base) I.ok.mod.kin K1.mt.kp (thn run2 fun us s2 ⟨ys, H2, I2, rv, r2, vs, h2, he2, z2, q2⟩ => ⟨I2.kIn, D.run (us := .ref p :: us) (ys := .ref p :: ys) hr tk I2 (.cons (show RelV (V.ref p) (Value.ref p) from rfl) rv) he2 z2 q2⟩) (starEach_plain es X.env hp.1) (noStar hp.2)
theorem se_meth0 {O : Orc} {m : Nat} {o : Expr} {apos pos : Pos} {fo : Fr → Hv → Rs Va} (ho : PE X o (tF M W fo)) (hm : ∀ c g, T.met c m = some g → MOk X.K M c m g ∧ DBl X T M O g) (hr : Room (T.cur - 1) X.A) (tk : Takes X W)
    (hsu : supB o = true) (hl : (apos.endLine == pos.line) = true) :
    PE X (.Call (.Attribute o (M.an m) apos) [] [] pos) (tF M W fun s h => (fo s h).bind fun x h1 => match x with
      | .ref p => (match h1.get p with
        | some (.ins c fs) => (match T.met c m with
          | some g => (match lookF m fs with
            | none => callF T O 0 g [.ref p] h1
            | some _ => .no)
          | none => .no)
        | _ => .no)
      | _ => .no) := by
  refine ⟨fun pins s σ H Q I ⟨r, sm, h, hs, he, q⟩ => ?_⟩
  have run := ho.run pins s σ H (fun x H1 => ∃ r1 h1 a p c g dx ys, x = .ref p ∧ Emb M r1 h1 H1 ∧ r1[a]? = some p ∧ H1 p = some (.ins (M.ca c) dx ys) ∧ ys.lookup (M.an m) = none ∧ T.met c m = some g ∧
    Cn M (XAt W σ) r1 H1 (callF T O 0 g [.ref a] h1) (RV M) Q) I (tF.step hs he q fun r1 v h1 y H1 g1 hs1 he1 z1 q1 => by
      cases v with
      | ref a =>
        have q1 : Cn M (XAt W σ) r1 H1 (match h1.get a with
          | some (.ins c fs) => (match T.met c m with
            | some g => (match lookF m fs with
              | none => callF T O 0 g [.ref a] h1
              | some _ => .no)
            | none => .no)
          | _ => .no) (RV M) Q := q1
        split at q1
        · rename_i c fs e1
          obtain ⟨p, dx, ys, rfl, hp, hh, ls⟩ := get_ins he1 e1 z1
          split at q1
          · rename_i g e2
            split at q1
            · rename_i e3
              exact ⟨r1, h1, a, p, c, g, dx, ys, rfl, he1, hp, hh, lookF_no M ls e3, e2, q1⟩
            · exact q1.elim
          · exact q1.elim
        · exact q1.elim
      | _ => exact q1.elim)
  refine PySem.W.methodCall_KW (pl := _) (thn run fun u s1 ⟨x, H1, I1, rx, r1, h1, a, p, c, g, dx, ys, ex, he1, hpa, hh, hno, hmt, q1⟩ => ?_) (callM hsu hl (by rfl) (by rfl))
  subst ex
  obtain rfl : u = Value.ref p := rx
  obtain ⟨K1, D⟩ := hm c g hmt
  refine getmeth_ok I1 hh K1.cl K1.mt hno ?_
  exact PySem.W.callWith_K0 (first := [.ref p]) I1.kIn K1.mt.kp (D.run (us := [.ref p]) (ys := [.ref p]) (vs := [.ref a]) hr tk I1 (.cons (show RelV (V.ref p) (Value.ref p) from rfl) .nil) he1 (.cons ⟨p, hpa, rfl⟩ .nil) q1)

/-! ### fields, properties -/
/-- a property of a class -/
structure PrOk (K : PySem.W.Frag) (M : Wd) (c f g : Nat) : Prop where
  cl : Cls K (M.ca c)
  pr : ∃ p, PropOf K (M.ca c) (M.an f) p (M.fa g)
/-- a field of an own exception read -/
theorem xget {X : Cx} {pins : List (Addr × Obj)} {σ : L2.St} {H : Hp} {s : Shared} {a C dx : Addr} {ys : List (Str × V)} {n : Str} {v : V} {Q : Value → Shared → Prop} {E : Value → Shared → Prop} {expr : Bool} (I : Inv X pins σ H s) (e : H a = some (exo a C (some dx))) (ed : H dx = some (exd dx ys)) (T : XfC X.K C) (hno : PySem.W.findIn X.K (.ref C) n = some none)
    (l : ys.lookup n = some v) (q : ∀ u s', Inv X pins σ H s' → RelV v u → Q u s') : wpAny (model X.prog X.w) X.A (getAttr (.ref a) n expr) Q E s := by
  obtain ⟨t1, ho⟩ := exo_at I.hok e
  obtain ⟨mA, hns, hr⟩ := exd_at I.hok ed
  obtain ⟨od, hod, hl⟩ := lookIn_ns hns
  obtain ⟨u, hu, ru⟩ := RelO.some_of (v := v) (o := mA n) (by rw [← l]; exact hr n)
  have J : PySem.W.InstAt s.heap a { cls := .ref C, dict := some dx, data := .fields #[.ref t1, .none, .none, .none, .bool false, .none] } C (some od) := ⟨ho, rfl, rfl, hod⟩
  exact HandSPX.exc_get I.kIn J T.ga T.gg T.exC (PySem.W.findObj_own T.hdC hno rfl (by rw [hl, hu])) (handed_of ru) (q u _ (I.tok _) ru)
theorem se_fld {O : Orc} {f : Nat} {o : Expr} {pos : Pos} {fo : Fr → Hv → Rs Va} (ho : PE X o (tF M W fo)) (tk : TOk T M X.K) (hm : ∀ c g, T.prp c f = some g → PrOk X.K M c f g ∧ DBl X T M O g) (hr : Room (T.cur - 1) X.A) (hsu : supB o = true) :
    PE X (.Attribute o (M.an f) pos) (tF M W fun s h => (fo s h).bind fun x h1 => match x with
      | .ref p => (match h1.get p with
        | some (.ins c fs) => (match T.fld c f with
          | true => toV (lookF f fs) h1
          | false => (match T.prp c f with
            | some g => okO (callF T O 1 g [.ref p] h1)
            | none => .no))
        | some (.exo _ _ _) => xdF T f p h1
        | _ => .no)
      | _ => .no) := by
  refine ⟨fun pins s σ H Q I ⟨r, sm, h, hs, he, q⟩ => ?_⟩
  have run := ho.run pins s σ H (fun x H1 => (∃ p c dx ys v, x = .ref p ∧ H1 p = some (exo p (M.ca c) (some dx)) ∧ H1 dx = some (exd dx ys) ∧ T.xfl c f = true ∧ ys.lookup (M.an f) = some v ∧ Q v H1) ∨ ∃ p c dx ys, x = .ref p ∧ H1 p = some (.ins (M.ca c) dx ys) ∧ ((T.fld c f = true ∧ ∃ v, ys.lookup (M.an f) = some v ∧ Q v H1) ∨ ∃ g r1 h1 a, T.prp c f = some g ∧ Emb M r1 h1 H1 ∧ r1[a]? = some p ∧ Cn M (fun _ _ _ => False) r1 H1 (callF T O 1 g [.ref a] h1) (RV M) Q)) I (tF.step hs he q fun r1 v h1 y H1 g1 hs1 he1 z1 q1 => by
      cases v with
      | ref a =>
        have q1 : Cn M (XAt W σ) r1 H1 (match h1.get a with
          | some (.ins c fs) => (match T.fld c f with
            | true => toV (lookF f fs) h1
            | false => (match T.prp c f with
              | some g => okO (callF T O 1 g [.ref a] h1)
              | none => .no))
          | some (.exo _ _ _) => xdF T f a h1
          | _ => .no) (RV M) Q := q1
        split at q1
        · rename_i c fs e1
          obtain ⟨p, dx, ys, rfl, hp, hh, ls⟩ := get_ins he1 e1 z1
          refine .inr ⟨p, c, dx, ys, rfl, hh, ?_⟩
          split at q1
          · rename_i e2
            obtain ⟨v, e3, q1⟩ := toV_ok q1
            obtain ⟨x, e4, z⟩ := lookF_ok M ls e3
            exact .inl ⟨e2, x, e4, q1.ok he1 z⟩
          · split at q1
            · rename_i g e2
              refine .inr ⟨g, r1, h1, a, e2, he1, hp, ?_⟩
              revert q1
              cases callF T O 1 g [.ref a] h1 with
              | ok v h2 => exact fun q => q
              | ex c f h2 => exact fun q => False.elim q
              | no => exact fun q => q
            · exact q1.elim
        · unfold xdF at q1
          split at q1
          · rename_i c fs e1
            split at q1
            · rename_i e2
              obtain ⟨p, dx, ys, rfl, _, k1, k2, ls⟩ := xAt_ok he1 e1 z1
              obtain ⟨v, e3, q1⟩ := toV_ok q1
              obtain ⟨x, e4, z⟩ := lookF_ok M ls e3
              exact .inl ⟨p, c, dx, ys, x, rfl, k1, k2, e2, e4, q1.ok he1 z⟩
            · exact q1.elim
          · exact q1.elim
        · exact q1.elim
      | _ => exact q1.elim)
  refine attr_of (attrB hsu) (thn run fun u s1 ⟨x, H1, I1, rx, q0⟩ => ?_)
  rcases q0 with ⟨p, c, dx, ys, v, ex, k1, k2, e2, e3, q1⟩ | ⟨p, c, dx, ys, ex, hh, q1⟩
  · subst ex
    obtain rfl : u = Value.ref p := rx
    obtain ⟨T1, hno⟩ := tk.xfl c f e2
    exact xget I1 k1 k2 T1 hno e3 fun u' s2 I2 ru => ⟨v, H1, I2, ru, q1⟩
  subst ex
  obtain rfl : u = Value.ref p := rx
  rcases q1 with ⟨e2, v, e3, q1⟩ | ⟨g, r1, h1, a, e2, he1, hp, q1⟩
  · obtain ⟨ok, na⟩ := tk.fld c f e2
    exact getattr_ok I1 hh (tk.cls c ok).cl na e3 fun u' s2 I2 ru => ⟨v, H1, I2, ru, q1⟩
  · obtain ⟨P, D⟩ := hm c g e2
    obtain ⟨lt, j, hj, hl, q1⟩ := callF_ok q1
    obtain ⟨fd, ps, F, hd, _⟩ := (D (by omega)).ex
    obtain ⟨ds, dvs, hb, hv, zd⟩ := (hd j hj).ex
    obtain ⟨pp, hpp⟩ := P.pr
    exact getprop_ok I1 hh P.cl hpp F (room_of hr lt) hb hv (fun pins σ H s e s' I c => (c.elim fun a b => by
      obtain ⟨B, H', cls, d, _, _, _, _, _, _, _, z⟩ := b
      exact z.elim)) (spO_at (vs := [.ref a]) (ys := [.ref p]) he1 (.cons ⟨p, hp, rfl⟩ .nil) zd hl q1)
end
end MP
set_option linter.all false
set_option maxRecDepth 100000
set_option maxHeartbeats 4000000
/-! New instances; list comprehensions. -/
namespace MP
open PySem L2
section
variable {X : Cx} {M : Wd} {W : WX} {T : Tb} {r : List Addr} {h : Hv} {H : Hp} {K : PySem.W.Frag} {k : Nat}
/-- a class whose instances are made -/
structure KOk (K : PySem.W.Frag) (M : Wd) (c g : Nat) : Prop where
  made : Mk K (M.ca c) (M.fa g)
theorem Emb.ins0 (he : Emb M r h H) {x dx : Addr} (hx : H x = none) (hd : H dx = none) (hn : dx ≠ x) (c : Nat) : Gro M r H (h.new (.ins c [])) (r ++ [x]) (upd (upd H dx (.own x)) x (.ins (M.ca c) dx [])) :=
  (he.laid (u := .own x) hd).trans ((he.laid (u := .own x) hd).emb.alloc (by rw [upd_ne hn.symm]; exact hx) ⟨dx, [], rfl, .nil⟩)
theorem new_run {O : Orc} {c g : Nat} (C : KOk X.K M c g) (D : DBl X T M O g) (hr : Room (T.cur - 1) X.A) (tk : Takes X W) {pins : List (Addr × Obj)} {σ : L2.St} {H : Hp} {s : Shared} {us : List Value} {vs : List Va} {ys : List V} {r : List Addr} {h : Hv} {Q : VK} (I : Inv X pins σ H s) (rv : Vals ys us)
    (he : Emb M r h H) (z : RVs M r vs ys) (q : Cn M (XAt W σ) r H ((callF T O 1 g (.ref h.n :: vs) (h.new (.ins c []))).bind fun v h2 => match v with
        | .non => .ok (.ref h.n) h2
        | _ => .no) (RV M) Q) : wpAny (model X.prog X.w) X.A (call (.ref (M.ca c)) us) (EP X pins σ Q) X.xe s := by
  have fx := I.hok.fresh (Nat.le_succ s.heap.objs.size)
  have fd1 := I.hok.fresh (Nat.le_refl s.heap.objs.size)
  have ne : s.heap.objs.size ≠ s.heap.objs.size + 1 := Nat.ne_of_lt (Nat.lt_succ_self _)
  have g0 := he.ins0 fx fd1 ne c
  have I2 := Inv.made (C := M.ca c) I
  have q := q.later g0
  have hn : (r ++ [s.heap.objs.size + 1])[h.n]? = some (s.heap.objs.size + 1) := by
    rw [← he.len]
    exact get_last r _
  -- the wish of __init__
  have q2 : Cn M (XAt W σ) (r ++ [s.heap.objs.size + 1]) (upd (upd H s.heap.objs.size (.own (s.heap.objs.size + 1))) (s.heap.objs.size + 1) (.ins (M.ca c) s.heap.objs.size [])) (callF T O 1 g (.ref h.n :: vs) (h.new (.ins c []))) (RV M) (fun v H2 => v = .non ∧ Q (.ref (s.heap.objs.size + 1)) H2) := by
    revert q
    cases callF T O 1 g (.ref h.n :: vs) (h.new (.ins c [])) with
    | ok v h2 =>
      intro q r' y H' g1 z1
      cases v with
      | non =>
        cases z1
        exact ⟨rfl, Cn.okG (v := Va.ref h.n) q g1 ⟨_, pre_get g1.pre hn, rfl⟩⟩
      | _ => exact (q.elim)
    | ex c f h2 => exact fun q => q
    | no => exact fun q => q
  obtain ⟨lt, j, hj, hl, q3⟩ := callF_ok q2
  obtain ⟨fd, ps, F, hd, _⟩ := (D (by omega)).ex
  have hr := room_of hr lt
  obtain ⟨ds, dvs, hb, hv, zd⟩ := (hd j hj).ex
  have zz : RVs M (r ++ [s.heap.objs.size + 1]) (.ref h.n :: vs) (.ref (s.heap.objs.size + 1) :: ys) := .cons ⟨_, hn, rfl⟩ (z.mono (List.prefix_append _ _))
  have sp := spO_at (g := O g) (n := T.ar g) g0.emb zz zd hl q3
  have rr : Vals (V.ref (s.heap.objs.size + 1) :: ys) (Value.ref (s.heap.objs.size + 1) :: us) := .cons (show RelV (V.ref (s.heap.objs.size + 1)) (Value.ref (s.heap.objs.size + 1)) from rfl) rv
  have r2 := Vals.append rr hv
  have ln : ((Value.ref (s.heap.objs.size + 1) :: us) ++ ds).length = ps.length := by
    rw [← r2.length]
    exact F.len _ _ _ _ sp
  have go := F.run _ X.stack _ _ ⟨Value.ref (s.heap.objs.size + 1) :: us, []⟩ ((Value.ref (s.heap.objs.size + 1) :: us) ++ ds) _ _ (XAt W σ) (hr.make (M.ca c) us []) (I2.env0.make (M.ca c) us []) (hb _ (Value.ref (s.heap.objs.size + 1) :: us) I2.kIn ln) r2 sp
  refine wpAny_call (make_map (f := M.fa g) I.kIn C.made.makes C.made.init (beq_iff_eq.mp C.made.fn) (codeAny_mono go fun res s' hres => ?_))
  cases res with
  | error e => exact passAt tk σ pins _ _ e s' I2 hres
  | ok fl =>
    cases fl with
    | ret u =>
      obtain ⟨v, H', I3, rv3, ev, q4⟩ := I2.after hres
      subst ev
      exact ⟨rv3, ⟨V.ref (s.heap.objs.size + 1), H', I3, rfl, q4⟩⟩
    | next => exact hres.elim
    | brk => exact hres.elim
    | cont => exact hres.elim
theorem se_mk {O : Orc} {c g : Nat} {x : Str} {p pos : Pos} {e : Expr} {es : List Expr} {ga : Fr → Hv → Rs (List Va)} (C : KOk X.K M c g) (D : DBl X T M O g) (hr : Room (T.cur - 1) X.A) (hg : Gl X x) (hm : X.mg x = some (.ref (M.ca c))) (tk : Takes X W)
    (ha : PA X (e :: es) (tFA M W ga)) (hp : (e :: es).all plainX = true) (hd : (x == ("__debug__" : Str)) = false) : PE X (.Call (.Name x p) (e :: es) [] pos) (tF M W fun s h => (ga s h).bind fun vs h1 => mkF T O c g vs h1) := by
  refine ⟨fun pins s σ H Q I ⟨r, sm, h, hs, he, q⟩ => ?_⟩
  refine wpAny_Call_Name_kw (ld_glob I hg hm ?_ hd)
  have run := ha.run pos pins s σ H (fun ys H1 => ∃ r1 vs h1, Emb M r1 h1 H1 ∧ RVs M r1 vs ys ∧ Cn M (XAt W σ) r1 H1 (mkF T O c g vs h1) (RV M) Q) I (tFA.step hs he q fun r1 v h1 y H1 g1 hs1 he1 z1 q1 => ⟨r1, v, h1, he1, z1, q1⟩)
  rw [List.all_cons, Bool.and_eq_true] at hp
  exact PySem.W.callWith_K (h₀ := X.base) I.ok.mod.kin C.made.kp (thn run fun us s1 ⟨ys, H1, I1, rv, r1, vs, h1, he1, z1, q1⟩ => ⟨I1.kIn, new_run C D hr tk I1 rv he1 z1 q1⟩) (starEach_plain es X.env hp.1) (noStar hp.2)
theorem se_mk0 {O : Orc} {c g : Nat} {x : Str} {p pos : Pos} (C : KOk X.K M c g) (D : DBl X T M O g) (hr : Room (T.cur - 1) X.A) (hg : Gl X x) (hm : X.mg x = some (.ref (M.ca c))) (tk : Takes X W)
    (hd : (x == ("__debug__" : Str)) = false) : PE X (.Call (.Name x p) [] [] pos) (tF M W fun s h => mkF T O c g [] h) := by
  refine ⟨fun pins s σ H Q I ⟨r, sm, h, hs, he, q⟩ => ?_⟩
  refine wpAny_Call_Name_kw (ld_glob I hg hm ?_ hd)
  exact PySem.W.callWith_K0 I.kIn C.made.kp (new_run (vs := []) (ys := []) C D hr tk I .nil he .nil q)
end
end MP
set_option linter.all false
set_option maxRecDepth 100000
set_option maxHeartbeats 4000000
/-! Statements. -/
namespace MP
open PySem L2
/-- what is wanted behind a statement's result -/
def Cs (M : Wd) (W : WX) (D : Ends) (r : List Addr) (H : Hp) : RS → Prop
  | .nx s h' => ∀ r' σ' H', Gro M r H h' r' H' → RF M r' s σ' → D.nx σ' H'
  | .rt v h' => ∀ r' y H', Gro M r H h' r' H' → RV M r' v y → D.rt y H'
  | .bk s h' => ∀ r' σ' H', Gro M r H h' r' H' → RF M r' s σ' → D.bk σ' H'
  | .ct s h' => ∀ r' σ' H', Gro M r H h' r' H' → RF M r' s σ' → D.ct σ' H'
  | .ex c fs s h' => ∀ r' σ' H' d ys, Gro M r H h' r' H' → RF M r' s σ' → RFs M r' fs ys → H' d = some (.xd ys) → W (.ref (M.ca c)) (some d) σ' H'
  | .no => False
def tS (M : Wd) (W : WX) (f : Fr → Hv → RS) : TS := fun D σ H => ∃ r s h, RF M r s σ ∧ Emb M r h H ∧ Cs M W D r H (f s h)
section
variable {X : Cx} {M : Wd} {W : WX} {T : Tb} {r r' : List Addr} {h h' : Hv} {H H' : Hp} {K : PySem.W.Frag} {D D' : Ends}
theorem Cs.later {x : RS} (g : Gro M r H h' r' H') (q : Cs M W D r H x) : Cs M W D r' H' x := by
  cases x with
  | nx s h => exact fun r2 σ2 H2 g2 z => q r2 σ2 H2 (g.trans g2) z
  | rt v h => exact fun r2 y H2 g2 z => q r2 y H2 (g.trans g2) z
  | bk s h => exact fun r2 σ2 H2 g2 z => q r2 σ2 H2 (g.trans g2) z
  | ct s h => exact fun r2 σ2 H2 g2 z => q r2 σ2 H2 (g.trans g2) z
  | ex c f s h => exact fun r2 σ2 H2 d ys g2 z => q r2 σ2 H2 d ys (g.trans g2) z
  | no => exact q
theorem Cs.imp {x : RS} (q : Cs M W D r H x) (n : ∀ σ H, D.nx σ H → D'.nx σ H) (t : ∀ y H, D.rt y H → D'.rt y H) (b : ∀ σ H, D.bk σ H → D'.bk σ H) (c : ∀ σ H, D.ct σ H → D'.ct σ H) : Cs M W D' r H x := by
  cases x with
  | nx s h => exact fun r2 σ2 H2 g2 z => n _ _ (q r2 σ2 H2 g2 z)
  | rt v h => exact fun r2 y H2 g2 z => t _ _ (q r2 y H2 g2 z)
  | bk s h => exact fun r2 σ2 H2 g2 z => b _ _ (q r2 σ2 H2 g2 z)
  | ct s h => exact fun r2 σ2 H2 g2 z => c _ _ (q r2 σ2 H2 g2 z)
  | ex c f s h => exact q
  | no => exact q
theorem Cs.nx {s : Fr} {σ : L2.St} (q : Cs M W D r H (.nx s h)) (e : Emb M r h H) (z : RF M r s σ) : D.nx σ H := q r σ H (Gro.refl e) z
theorem PS.imp {st : Stmt} {t t' : TS} (p : PS X st t) (i : ∀ D σ H, t' D σ H → t D σ H) : PS X st t' := ⟨fun pins s σ H D I h => p.run pins s σ H D I (i D σ H h)⟩
theorem PSs.imp {st : List Stmt} {t t' : TS} (p : PSs X st t) (i : ∀ D σ H, t' D σ H → t D σ H) : PSs X st t' := ⟨fun pins s σ H D I h => p.run pins s σ H D I (i D σ H h)⟩
/-- the sequence -/
theorem Cs.nxt {x : RS} {k : Fr → Hv → RS} (q : Cs M W D r H (x.nxt k)) : Cs M W { D with nx := fun σ' H' => ∃ r1 s1 h1, RF M r1 s1 σ' ∧ Emb M r1 h1 H' ∧ Cs M W D r1 H' (k s1 h1) } r H x := by
  cases x with
  | nx s h => exact fun r2 σ2 H2 g2 z => ⟨r2, s, h, z, g2.emb, q.later g2⟩
  | rt v h => exact q
  | bk s h => exact q
  | ct s h => exact q
  | ex c f s h => exact q
  | no => exact q
/-- from an expression on -/
theorem Cs.st {α β : Type} {R : List Addr → α → β → Prop} {x : Rs α} {s : Fr} {σ : L2.St} {k : α → Hv → RS} (hs : RF M r s σ) (q : Cs M W D r H (x.st s k)) : Cn M (XAt W σ) r H x R fun y H1 => ∃ r1 v h1, Gro M r H h1 r1 H1 ∧ R r1 v y ∧ Cs M W D r1 H1 (k v h1) := by
  cases x with
  | ok v h => exact fun r1 y H1 g z => ⟨r1, v, h, g, z, q.later g⟩
  | ex c fs h => exact fun r1 H1 d ys g z e => q r1 σ H1 d ys g (hs.mono g.pre) z e
  | no => exact q
theorem tF.stS {f : Fr → Hv → Rs Va} {k : Va → Hv → RS} {r : List Addr} {s : Fr} {h : Hv} {σ : L2.St} {H : Hp} {Q' : VK} (hs : RF M r s σ) (he : Emb M r h H)
    (q : Cs M W D r H ((f s h).st s k)) (i : ∀ r1 v h1 y H1, Gro M r H h1 r1 H1 → RF M r1 s σ → Emb M r1 h1 H1 → RV M r1 v y → Cs M W D r1 H1 (k v h1) → Q' y H1) : tF M W f σ H Q' :=
  ⟨r, s, h, hs, he, (Cs.st hs q).mono fun y H1 ⟨r1, v, h1, g, z, q1⟩ => i r1 v h1 y H1 g (hs.mono g.pre) g.emb z q1⟩
theorem tFT.stS {f : Fr → Hv → Rs Bool} {k : Bool → Hv → RS} {r : List Addr} {s : Fr} {h : Hv} {σ : L2.St} {H : Hp} {Q' : Bool → Hp → Prop} (hs : RF M r s σ) (he : Emb M r h H)
    (q : Cs M W D r H ((f s h).st s k)) (i : ∀ r1 v h1 H1, Gro M r H h1 r1 H1 → RF M r1 s σ → Emb M r1 h1 H1 → Cs M W D r1 H1 (k v h1) → Q' v H1) : tFT M W f σ H Q' :=
  ⟨r, s, h, hs, he, (Cs.st (R := fun _ a b => b = a) hs q).mono fun y H1 ⟨r1, v, h1, g, z, q1⟩ => by
    subst z
    exact i r1 y h1 H1 g (hs.mono g.pre) g.emb q1⟩
theorem tFA.stS {f : Fr → Hv → Rs (List Va)} {k : List Va → Hv → RS} {r : List Addr} {s : Fr} {h : Hv} {σ : L2.St} {H : Hp} {Q' : List V → Hp → Prop} (hs : RF M r s σ) (he : Emb M r h H)
    (q : Cs M W D r H ((f s h).st s k)) (i : ∀ r1 v h1 y H1, Gro M r H h1 r1 H1 → RF M r1 s σ → Emb M r1 h1 H1 → RVs M r1 v y → Cs M W D r1 H1 (k v h1) → Q' y H1) : tFA M W f σ H Q' :=
  ⟨r, s, h, hs, he, (Cs.st (R := RVs M) hs q).mono fun y H1 ⟨r1, v, h1, g, z, q1⟩ => i r1 v h1 y H1 g (hs.mono g.pre) g.emb z q1⟩

/-! ### blocks, small statements -/
theorem ss_nil : PSs X [] (tS M W fun s h => .nx s h) := PSs.imp pss_nil fun D σ H ⟨r, s, h, hs, he, q⟩ => q.nx he hs
theorem ss_cons {st : Stmt} {rest : List Stmt} {f g : Fr → Hv → RS} (h1 : PS X st (tS M W f)) (h2 : PSs X rest (tS M W g)) : PSs X (st :: rest) (tS M W fun s h => (f s h).nxt g) :=
  PSs.imp (pss_cons h1 h2) fun D σ H ⟨r, s, h, hs, he, q⟩ => ⟨r, s, h, hs, he, q.nxt⟩
theorem ss_pass {pos : Pos} : PS X (.Pass pos) (tS M W fun s h => .nx s h) := PS.imp ps_pass fun D σ H ⟨r, s, h, hs, he, q⟩ => q.nx he hs
theorem ss_brk {pos : Pos} : PS X (.Break pos) (tS M W fun s h => .bk s h) := PS.imp ps_break fun D σ H ⟨r, s, h, hs, he, q⟩ => q r σ H (Gro.refl he) hs
theorem ss_cont {pos : Pos} : PS X (.Continue pos) (tS M W fun s h => .ct s h) := PS.imp ps_continue fun D σ H ⟨r, s, h, hs, he, q⟩ => q r σ H (Gro.refl he) hs
theorem ss_doc {x j pos pos'} : PS X (.Expr (.Constant (.str x) j pos) pos') (tS M W fun s h => .nx s h) := PS.imp ps_doc fun D σ H ⟨r, s, h, hs, he, q⟩ => q.nx he hs
/-- no comprehension -/
def noLC : Expr → Bool
  | .ListComp _ _ _ _ => false
  | .SetComp _ _ _ _ => false
  | .DictComp _ _ _ _ _ => false
  | _ => true
theorem swaps_no {e : Expr} {tg : Option Expr} {n : Nat} {env : Env} (h : noLC e = true) : swapsWith e tg n env = pure false := by
  unfold swapsWith
  cases e <;> first | rfl | cases h
theorem swaps_attr (e : Expr) {o : Expr} {f : Str} {p : Pos} {n : Nat} {env : Env} : swapsWith e (some (.Attribute o f p)) n env = pure false := by
  unfold swapsWith
  cases e <;> rfl
theorem swaps_sub (e : Expr) {o i : Expr} {p : Pos} {n : Nat} {env : Env} : swapsWith e (some (.Subscript o i p)) n env = pure false := by
  unfold swapsWith
  cases e <;> rfl
theorem ss_exp {e : Expr} {pos : Pos} {f : Fr → Hv → Rs Va} (he : PE X e (tF M W f)) (hn : noLC e = true) : PS X (.Expr e pos) (tS M W fun s h => (f s h).st s fun _ h1 => .nx s h1) :=
  PS.imp (ps_expr he (swaps_no hn)) fun D σ H ⟨r, s, h, hs, he, q⟩ => tF.stS hs he q fun r1 v h1 y H1 g1 hs1 he1 z1 q1 => q1.nx he1 hs1
theorem ss_ret {e : Expr} {pos : Pos} {f : Fr → Hv → Rs Va} (he : PE X e (tF M W f)) : PS X (.Return (some e) pos) (tS M W fun s h => (f s h).st s fun v h1 => .rt v h1) :=
  PS.imp (ps_ret he) fun D σ H ⟨r, s, h, hs, he, q⟩ => tF.stS hs he q fun r1 v h1 y H1 g1 hs1 he1 z1 q1 => q1 r1 y H1 (Gro.refl he1) z1
theorem ss_retN {pos : Pos} : PS X (.Return none pos) (tS M W fun s h => .rt .non h) := PS.imp ps_retN fun D σ H ⟨r, s, h, hs, he, q⟩ => q r .non H (Gro.refl he) rfl
theorem ss_if {c : Expr} {a b : List Stmt} {pos : Pos} {fc : Fr → Hv → Rs Bool} {fa fb : Fr → Hv → RS} (hc : PT X c (tFT M W fc)) (ha : PSs X a (tS M W fa)) (hb : PSs X b (tS M W fb)) : PS X (.If c a b pos) (tS M W fun s h => (fc s h).st s fun k h1 => match k with
      | true => fa s h1
      | false => fb s h1) :=
  PS.imp (ps_if hc ha hb) fun D σ H ⟨r, s, h, hs, he, q⟩ => tFT.stS hs he q fun r1 v h1 H1 g1 hs1 he1 q1 => by
    cases v with
    | true => exact (if_pos rfl).mpr ⟨r1, s, h1, hs1, he1, q1⟩
    | false => exact (if_neg (by decide)).mpr ⟨r1, s, h1, hs1, he1, q1⟩

/-! ### stores -/
theorem ss_set {i : Nat} {x : Str} {e : Expr} {pos pos' : Pos} {f : Fr → Hv → Rs Va} (hN : X.N.Nodup) (hi : X.N[i]? = some x) (hx : Loc X.env.scope x) (he : PE X e (tF M W f)) (hn : swapsWith e (some (.Name x pos')) pos.line X.env = pure false) (hf : X.fn x = true ∨ X.env.scope.names.lookup x = some .local) :
    PS X (.Assign [.Name x pos'] e pos) (tS M W fun s h => (f s h).st s fun v h1 => .nx (s.set i (some v)) h1) :=
  PS.imp (ps_set hN hi hx he hn hf) fun D σ H ⟨r, s, h, hs, he, q⟩ => tF.stS hs he q fun r1 v h1 y H1 g1 hs1 he1 z1 q1 => q1.nx he1 (hs1.set z1)
theorem RFs.length {fs : List (Nat × Va)} {ys : List (Str × V)} (p : RFs M r fs ys) : fs.length = ys.length := Paired.length p
theorem ss_fld {f : Nat} {o e : Expr} {pos pos' : Pos} {fo fe : Fr → Hv → Rs Va} (tk : TOk T M X.K) (ho : PE X o (tF M W fo)) (he : PE X e (tF M W fe)) :
    PS X (.Assign [.Attribute o (M.an f) pos'] e pos) (tS M W fun s h => (fe s h).st s fun v h1 => (fo s h1).st s fun x h2 => setF T f v x s h2) :=
  PS.imp (ps_fld ho he (swaps_attr e)) fun D σ H ⟨r, s, h, hs, he, q⟩ => tF.stS hs he q fun r1 v h1 y H1 g1 hs1 he1 z1 q1 => tF.stS hs1 he1 q1 fun r2 x h2 y2 H2 g2 hs2 he2 z2 q2 => by
    cases x with
    | ref a =>
      have q2 : Cs M W D r2 H2 (match h2.get a with
        | some (.ins c fs) => (match T.fld c f && Nat.blt fs.length 1000 with
          | true => .nx s (h2.set a (.ins c (putFl f v fs)))
          | false => .no)
        | _ => .no) := q2
      split at q2
      · rename_i c fs e
        obtain ⟨p, dx, ys, rfl, hp, hh, ls⟩ := get_ins he2 e z2
        split at q2
        · rename_i e2
          rw [Bool.and_eq_true] at e2
          obtain ⟨ok, na⟩ := tk.fld c f e2.1
          refine ⟨p, M.ca c, dx, ys, rfl, hh, (tk.cls c ok).cl, na, ?_, ?_⟩
          · rw [← RFs.length ls]
            exact Nat.le_of_ble_eq_true e2.2
          · have g := he2.set hp hh True.intro (o := .ins c (putFl f v fs)) (u := .ins (M.ca c) dx (putF (M.an f) y ys)) ⟨dx, _, rfl, putFl_ok M ls (z1.mono g2.pre)⟩
            exact q2 r2 σ _ g hs2
        · exact q2.elim
      · exact q2.elim
    | _ => exact q2.elim
end
end MP
set_option linter.all false
set_option maxRecDepth 100000
set_option maxHeartbeats 4000000
/-! Walks and loops. -/
namespace MP
open PySem L2
section
variable {X : Cx} {M : Wd} {W : WX} {T : Tb} {r r' : List Addr} {h h' : Hv} {H H' : Hp} {K : PySem.W.Frag} {D D' : Ends} {tg : Expr}

/-! ### a list, a tuple, a text walked -/
def iAny (K : PySem.W.Frag) (te : TE) : TI := fun σ H R => te σ H fun x H1 => (∃ a, x = .ref a ∧ (∃ xs, SqL K H1 a xs) ∧ R (Itl K a) H1) ∨ (∃ a, x = .ref a ∧ (∃ xs, SqT K H1 a xs) ∧ R (Itt K a) H1) ∨ (∃ y, x = .str y ∧ R (Its y) H1) ∨ ∃ d o kvs, x = .ref d ∧ H1 d = some (.frz o (.dK kvs)) ∧ R (Itk d o kvs) H1
theorem pi_any {e : Expr} {te : TE} (he : PE X e te) : PI X tg e (iAny X.K te) := by
  refine ⟨fun pins s σ H R I h => thn (he.run pins s σ H _ I h) fun v s1 ⟨x, H1, I1, r1, q1⟩ => ?_⟩
  rcases q1 with ⟨a, e, ⟨xs, hq⟩, q⟩ | ⟨a, e, ⟨xs, hq⟩, q⟩ | ⟨y, e, q⟩ | ⟨d, o, kvs, e, hd, q⟩
  · subst e
    cases r1
    obtain ⟨its, rv, p, hz⟩ := I1.list hq
    exact wpAny_pyIter_list p.isList (pi_one (tk := s1.toks) I1 _ (turn_list a _) ⟨_, Heap.get?_push_size _ rfl, rfl, rfl⟩ q)
  · subst e
    cases r1
    obtain ⟨its, rv, p, hz⟩ := I1.tuple hq
    exact wpAny_pyIter_tuple (show s1.heap.IsTuple a its.toArray from p) (pi_one (tk := s1.toks) I1 _ (turn_tuple a _) ⟨_, Heap.get?_push_size _ rfl, rfl, rfl⟩ q)
  · subst e
    obtain ⟨t, rfl⟩ := r1
    by_cases ha : y.cps.all (· < 128) = true
    · exact wpAny_pyIter_ascii ha (pi_one (tk := s1.toks) I1 _ (turn_str _ y t "str_ascii_iterator" (.inl rfl)) ⟨_, Heap.get?_push_size _ rfl, rfl, rfl⟩ q)
    · exact wpAny_pyIter_wide (Bool.eq_false_iff.mpr ha) (pi_one (tk := s1.toks) I1 _ (turn_str _ y t "str_iterator" (.inr rfl)) ⟨_, Heap.get?_push_size _ rfl, rfl, rfl⟩ q)
  · subst e
    cases r1
    obtain ⟨z1, z2, z3, es, ep, vs, z4, z5, z6, z7⟩ := I1.frzK hd
    refine iter_keys z1 z2 z3 z4 (pi_one (tk := s1.toks) I1 _ (turn_keys _ z4) ⟨_, Heap.get?_push_size _ rfl, rfl, ?_⟩ q)
    rw [z5]
    rfl

/-! ### the small walk and the great one -/
def IWk (M : Wd) (K : PySem.W.Frag) (r : List Addr) (H : Hp) : Wk → It → Prop
  | .lst a _, J => ∃ p, r[a]? = some p ∧ J = Itl K p
  | .tup a _, J => ∃ p, r[a]? = some p ∧ J = Itt K p
  | .str x, J => J = Its ⟨x.toArray⟩
  | .rng lo n, J => J = Itr lo n
  | .enm a _, J => ∃ p, r[a]? = some p ∧ J = Ite K p
  | .zip a b _, J => ∃ p q, r[a]? = some p ∧ r[b]? = some q ∧ J = Itz K p q
  | .zipT a b _, J => ∃ p q, r[a]? = some p ∧ r[b]? = some q ∧ J = RZ.ItzT K p q
  | .dct _ kvs, J => ∃ p od ys, J = Itk p od ys ∧ H p = some (.frz od (.dK ys)) ∧ Paired (RD (M := M) r) kvs ys
theorem IWk.mono {w : Wk} {J : It} (gg : Gro M r H h' r' H') (q : IWk M K r H w J) : IWk M K r' H' w J := by
  have g := gg.pre
  cases w with
  | lst a n => obtain ⟨p, e, z⟩ := q; exact ⟨p, pre_get g e, z⟩
  | tup a n => obtain ⟨p, e, z⟩ := q; exact ⟨p, pre_get g e, z⟩
  | str x => exact q
  | rng lo n => exact q
  | enm a n => obtain ⟨p, e, z⟩ := q; exact ⟨p, pre_get g e, z⟩
  | zip a b n => obtain ⟨p, p2, e, e2, z⟩ := q; exact ⟨p, p2, pre_get g e, pre_get g e2, z⟩
  | zipT a b n => obtain ⟨p, p2, e, e2, z⟩ := q; exact ⟨p, p2, pre_get g e, pre_get g e2, z⟩
  | dct a k => obtain ⟨p, od, ys, z, hp, ls⟩ := q; exact ⟨p, od, ys, z, gg.frz _ _ _ hp, Paired.mapP ls fun _ _ z => ⟨z.1, z.2.mono g⟩⟩
theorem lstAt_ok (K : PySem.W.Frag) (he : Emb M r h H) {a n : Nat} {p : Addr} (hp : r[a]? = some p) {xs : List Va} (e : lstAt h a n = some xs) : ∃ ys, SqL K H p ys ∧ RVs M r xs ys ∧ xs.length = n := by
  unfold lstAt at e
  split at e
  · rename_i ys q
    split at e
    · rename_i l
      cases e
      obtain ⟨p', zs, e2, hp', hl, ls⟩ := rd_lst he q ⟨p, hp, rfl⟩ K
      cases e2
      exact ⟨zs, hl, ls, Nat.eq_of_beq_eq_true l⟩
    · cases e
  · cases e
theorem tupAt_ok (K : PySem.W.Frag) (he : Emb M r h H) {a n : Nat} {p : Addr} (hp : r[a]? = some p) {xs : List Va} (e : tupAt h a n = some xs) : ∃ ys, SqT K H p ys ∧ RVs M r xs ys ∧ xs.length = n := by
  unfold tupAt at e
  split at e
  · rename_i ys q
    split at e
    · rename_i l
      cases e
      obtain ⟨p', zs, e2, hp', hl, ls⟩ := rd_tup he q ⟨p, hp, rfl⟩ K
      cases e2
      exact ⟨zs, hl, ls, Nat.eq_of_beq_eq_true l⟩
    · cases e
  · cases e
theorem lstOf_ok (K : PySem.W.Frag) (he : Emb M r h H) {a : Nat} {p : Addr} (hp : r[a]? = some p) {xs : List Va} (e : lstOf h a = some xs) : ∃ ys, SqL K H p ys ∧ RVs M r xs ys := by
  unfold lstOf at e
  split at e
  · rename_i ys q
    cases e
    obtain ⟨p', zs, e2, hp', hl, ls⟩ := rd_lst he q ⟨p, hp, rfl⟩ K
    cases e2
    exact ⟨zs, hl, ls⟩
  · cases e
theorem tupOf_ok (K : PySem.W.Frag) (he : Emb M r h H) {a : Nat} {p : Addr} (hp : r[a]? = some p) {xs : List Va} (e : tupOf h a = some xs) : ∃ ys, SqT K H p ys ∧ RVs M r xs ys := by
  unfold tupOf at e
  split at e
  · rename_i ys q
    cases e
    obtain ⟨p', zs, e2, hp', hl, ls⟩ := rd_tup he q ⟨p, hp, rfl⟩ K
    cases e2
    exact ⟨zs, hl, ls⟩
  · cases e
theorem pairO_ok {x y : Option (List Va)} {n : Nat} {p : List Va × List Va} (e : pairO x y n = some p) : x = some p.1 ∧ y = some p.2 ∧ min p.1.length p.2.length = n := by
  unfold pairO at e
  split at e
  · split at e
    · rename_i l
      cases e
      exact ⟨rfl, rfl, Nat.eq_of_beq_eq_true l⟩
    · cases e
  · cases e
theorem nthO_ok {o : Option (List Va)} {i : Nat} {v : Va} (e : nthO i o = some v) : ∃ ys, o = some ys ∧ ys[i]? = some v := by
  unfold nthO at e
  split at e
  · exact ⟨_, rfl, e⟩
  · cases e
theorem key_rv {v : Va} {k : Key} (z : RKt M v k) : RV M r v (kV k) := by
  cases v with
  | int i =>
    cases z
    rfl
  | str x =>
    cases z
    rfl
  | tok i =>
    obtain ⟨hi, rfl⟩ := z
    exact ⟨hi, rfl⟩
  | _ => exact z.elim
/-- an item as it comes -/
def YR (M : Wd) (r : List Addr) (y : List Va × Bool) (x : V) (H H' : Hp) : Prop :=
  (y.2 = false ∧ ∃ v, y.1 = [v] ∧ H' = H ∧ RV M r v x) ∨ (y.2 = true ∧ ∃ p ys, x = .ref p ∧ H p = none ∧ H' = upd H p (.tup ys) ∧ RVs M r y.1 ys)
theorem wk_yld {w : Wk} {J : It} {i : Nat} {y : List Va × Bool} (iw : IWk M K r H w J) (he : Emb M r h H) (e : w.yld i h = some y) : J.go i H ∧ ∀ x H', J.yld i H x H' → YR M r y x H H' := by
  cases w with
  | lst a n =>
    obtain ⟨p, hp, rfl⟩ := iw
    have e : (match nthO i (lstAt h a n) with
      | some v => some ([v], false)
      | none => none) = some y := e
    split at e
    · rename_i v q
      cases e
      obtain ⟨xs, e1, e2⟩ := nthO_ok q
      obtain ⟨ys, hl, ls, _⟩ := lstAt_ok K he hp e1
      obtain ⟨x, ex, z⟩ := pGet ls e2
      refine ⟨⟨ys, x, hl, ex⟩, fun x' H' ⟨eh, q⟩ => .inl ⟨rfl, v, rfl, eh, ?_⟩⟩
      have := q ys hl
      rw [ex] at this
      cases this
      exact z
    · cases e
  | tup a n =>
    obtain ⟨p, hp, rfl⟩ := iw
    have e : (match nthO i (tupAt h a n) with
      | some v => some ([v], false)
      | none => none) = some y := e
    split at e
    · rename_i v q
      cases e
      obtain ⟨xs, e1, e2⟩ := nthO_ok q
      obtain ⟨ys, hl, ls, _⟩ := tupAt_ok K he hp e1
      obtain ⟨x, ex, z⟩ := pGet ls e2
      refine ⟨⟨ys, x, hl, ex⟩, fun x' H' ⟨eh, q⟩ => .inl ⟨rfl, v, rfl, eh, ?_⟩⟩
      have := q ys hl
      rw [ex] at this
      cases this
      exact z
    · cases e
  | str t =>
    cases iw
    have e : (match t[i]? with
      | some c => some ([Va.str [c]], false)
      | none => none) = some y := e
    split at e
    · rename_i c q
      cases e
      have q' : t.toArray[i]? = some c := by simpa using q
      refine ⟨?_, fun x' H' ⟨eh, c', q2, ex⟩ => .inl ⟨rfl, _, rfl, eh, ?_⟩⟩
      · show i < t.toArray.size
        obtain ⟨l, _⟩ := List.getElem?_eq_some_iff.mp q
        simpa using l
      · have q2 : t.toArray[i]? = some c' := q2
        rw [q'] at q2
        cases q2
        exact ex
    · cases e
  | rng lo n =>
    cases iw
    have e : (match Nat.blt i n with
      | true => some ([Va.int (lo + i)], false)
      | false => none) = some y := e
    split at e
    · rename_i q
      cases e
      exact ⟨Nat.le_of_ble_eq_true q, fun x' H' ⟨eh, ex⟩ => .inl ⟨rfl, _, rfl, eh, ex⟩⟩
    · cases e
  | enm a n =>
    obtain ⟨p, hp, rfl⟩ := iw
    have e : (match nthO i (lstAt h a n) with
      | some v => some ([Va.int i, v], true)
      | none => none) = some y := e
    split at e
    · rename_i v q
      cases e
      obtain ⟨xs, e1, e2⟩ := nthO_ok q
      obtain ⟨ys, hl, ls, _⟩ := lstAt_ok K he hp e1
      obtain ⟨x, ex, z⟩ := pGet ls e2
      refine ⟨⟨ys, x, hl, ex⟩, fun x' H' ⟨T, x2, e3, e4, e5, q⟩ => .inr ⟨rfl, T, _, e3, e4, e5, ?_⟩⟩
      have := q ys hl
      rw [ex] at this
      cases this
      exact .cons rfl (.cons z .nil)
    · cases e
  | zip a b n =>
    obtain ⟨p, p2, hp, hp2, rfl⟩ := iw
    have e : (match pairO (lstOf h a) (lstOf h b) n with
      | some p => (match p.1[i]?, p.2[i]? with
        | some v, some w => some ([v, w], true)
        | _, _ => none)
      | none => none) = some y := e
    split at e
    · rename_i pr q
      split at e
      · rename_i v w q1 q2
        cases e
        obtain ⟨e1, e2, _⟩ := pairO_ok q
        obtain ⟨ys, hl, ls⟩ := lstOf_ok K he hp e1
        obtain ⟨zs, hl2, ls2⟩ := lstOf_ok K he hp2 e2
        obtain ⟨x, ex, z⟩ := pGet ls q1
        obtain ⟨x2, ex2, z2⟩ := pGet ls2 q2
        refine ⟨⟨ys, zs, x, x2, hl, hl2, ex, ex2⟩, fun x' H' ⟨T, x3, x4, e3, e4, e5, q3, q4⟩ => .inr ⟨rfl, T, _, e3, e4, e5, ?_⟩⟩
        have k1 := q3 ys hl
        have k2 := q4 zs hl2
        rw [ex] at k1
        rw [ex2] at k2
        cases k1
        cases k2
        exact .cons z (.cons z2 .nil)
      · cases e
    · cases e
  | zipT a b n =>
    obtain ⟨p, p2, hp, hp2, rfl⟩ := iw
    have e : (match pairO (tupOf h a) (tupOf h b) n with
      | some p => (match p.1[i]?, p.2[i]? with
        | some v, some w => some ([v, w], true)
        | _, _ => none)
      | none => none) = some y := e
    split at e
    · rename_i pr q
      split at e
      · rename_i v w q1 q2
        cases e
        obtain ⟨e1, e2, _⟩ := pairO_ok q
        obtain ⟨ys, hl, ls⟩ := tupOf_ok K he hp e1
        obtain ⟨zs, hl2, ls2⟩ := tupOf_ok K he hp2 e2
        obtain ⟨x, ex, z⟩ := pGet ls q1
        obtain ⟨x2, ex2, z2⟩ := pGet ls2 q2
        refine ⟨⟨ys, zs, x, x2, hl, hl2, ex, ex2⟩, fun x' H' ⟨T, x3, x4, e3, e4, e5, q3, q4⟩ => .inr ⟨rfl, T, _, e3, e4, e5, ?_⟩⟩
        have k1 := q3 ys hl
        have k2 := q4 zs hl2
        rw [ex] at k1
        rw [ex2] at k2
        cases k1
        cases k2
        exact .cons z (.cons z2 .nil)
      · cases e
    · cases e
  | dct a k =>
    obtain ⟨p, od, ys, rfl, hp, ls⟩ := iw
    have e : (match k[i]? with
      | some p => some ([p.1], false)
      | none => none) = some y := e
    split at e
    · rename_i kv q
      cases e
      obtain ⟨kx, ek, z⟩ := pGet ls q
      refine ⟨⟨hp, (List.getElem?_eq_some_iff.mp ek).1⟩, fun x' H' ⟨eh, k', v', e2, ex⟩ => .inl ⟨rfl, kv.1, rfl, eh, ?_⟩⟩
      rw [ek] at e2
      cases e2
      subst ex
      exact key_rv z.1
    · cases e
theorem isS_ok {α : Type} {o : Option α} (e : isS o = true) : ∃ x, o = some x := by
  cases o with
  | none => cases e
  | some x => exact ⟨x, rfl⟩
theorem wk_fin {w : Wk} {J : It} (iw : IWk M K r H w J) (he : Emb M r h H) (e : w.fin h = true) : J.stop w.len H := by
  cases w with
  | lst a n =>
    obtain ⟨p, hp, rfl⟩ := iw
    obtain ⟨xs, e⟩ := isS_ok e
    obtain ⟨ys, hl, ls, l⟩ := lstAt_ok K he hp e
    exact ⟨ys, hl, by rw [← ls.length, l]; exact Nat.le_refl _⟩
  | tup a n =>
    obtain ⟨p, hp, rfl⟩ := iw
    obtain ⟨xs, e⟩ := isS_ok e
    obtain ⟨ys, hl, ls, l⟩ := tupAt_ok K he hp e
    exact ⟨ys, hl, by rw [← ls.length, l]; exact Nat.le_refl _⟩
  | str t =>
    cases iw
    show t.toArray.size ≤ t.length
    simp
  | rng lo n =>
    cases iw
    exact Nat.le_refl _
  | enm a n =>
    obtain ⟨p, hp, rfl⟩ := iw
    obtain ⟨xs, e⟩ := isS_ok e
    obtain ⟨ys, hl, ls, l⟩ := lstAt_ok K he hp e
    exact ⟨ys, hl, by rw [← ls.length, l]; exact Nat.le_refl _⟩
  | zip a b n =>
    obtain ⟨p, p2, hp, hp2, rfl⟩ := iw
    obtain ⟨pr, e⟩ := isS_ok e
    obtain ⟨e1, e2, l⟩ := pairO_ok e
    obtain ⟨ys, hl, ls⟩ := lstOf_ok K he hp e1
    obtain ⟨zs, hl2, ls2⟩ := lstOf_ok K he hp2 e2
    refine ⟨ys, zs, hl, hl2, ?_⟩
    rw [← ls.length, ← ls2.length]
    show _ ≤ n ∨ _ ≤ n
    omega
  | zipT a b n =>
    obtain ⟨p, p2, hp, hp2, rfl⟩ := iw
    obtain ⟨pr, e⟩ := isS_ok e
    obtain ⟨e1, e2, l⟩ := pairO_ok e
    obtain ⟨ys, hl, ls⟩ := tupOf_ok K he hp e1
    obtain ⟨zs, hl2, ls2⟩ := tupOf_ok K he hp2 e2
    refine ⟨ys, zs, hl, hl2, ?_⟩
    rw [← ls.length, ← ls2.length]
    show _ ≤ n ∨ _ ≤ n
    omega
  | dct a k =>
    obtain ⟨p, od, ys, rfl, hp, ls⟩ := iw
    exact ⟨hp, by rw [← ls.length]; exact Nat.le_refl _⟩
end
end MP
set_option linter.all false
set_option maxRecDepth 100000
set_option maxHeartbeats 4000000
/-! Targets, for, while. -/
namespace MP
open PySem L2
section
variable {X : Cx} {M : Wd} {W : WX} {T : Tb} {r r' : List Addr} {h h' : Hv} {H H' : Hp} {K : PySem.W.Frag} {D D' : Ends} {tg : Expr}
/-! ### targets -/
/-- a target of names that stores by t -/
def LtOk (X : Cx) (t : LT) (g : TG) : Prop := match t with
  | .one i => g = gName i
  | .many is => g = gTup X.K is.length (is.foldr (fun i u => gCons (gName i) u) gNil)
  | .star _ _ => False
/-- but for the slots is -/
def SameBut (is : List Nat) (σ σ1 : L2.St) : Prop := ∀ vs : List Nat, (∀ i ∈ is, i ∈ vs) → wipe σ1 vs = wipe σ vs
theorem wipe_set {σ : L2.St} {i : Nat} {o : Option V} : ∀ {vs : List Nat}, i ∈ vs → wipe (σ.set i o) vs = wipe σ vs
  | [], h => by cases h
  | v :: vs, h => by
    show (wipe (σ.set i o) vs).set v none = (wipe σ vs).set v none
    by_cases c : i ∈ vs
    · rw [wipe_set c]
    · have e : i = v := by
        rcases List.mem_cons.mp h with k | k
        · exact k
        · exact absurd k c
      subst e
      have go : ∀ vs : List Nat, i ∉ vs → wipe (σ.set i o) vs = (wipe σ vs).set i o := fun vs => by
        induction vs with
        | nil =>
          intro _
          rfl
        | cons w vs ih =>
          intro hn
          show (wipe (σ.set i o) vs).set w none = ((wipe σ vs).set w none).set i o
          rw [ih fun k => hn (List.mem_cons_of_mem _ k), List.set_comm]
          intro k
          exact hn (k ▸ List.mem_cons_self ..)
      rw [go vs c, List.set_set]
theorem setAll_ok {H : Hp} {Q : L2.St → Hp → Prop} : ∀ {is : List Nat} {s s1 : Fr} {σ : L2.St} {vs : List Va} {xs : List V}, setAll s is vs = some s1 → RF M r s σ → RVs M r vs xs → (∀ σ1, RF M r s1 σ1 → SameBut is σ σ1 → Q σ1 H) → (is.foldr (fun i u => gCons (gName i) u) gNil) xs σ H Q
  | [], s, s1, σ, vs, xs, e, hs, z, q => by
    cases vs with
    | nil =>
      cases e
      cases z
      exact ⟨rfl, q σ hs fun _ _ => rfl⟩
    | cons _ _ => cases e
  | i :: is, s, s1, σ, vs, xs, e, hs, z, q => by
    cases vs with
    | nil => cases e
    | cons v vs =>
      cases z with
      | cons z1 z2 => exact ⟨_, _, rfl, setAll_ok (is := is) e (hs.set z1) z2 fun σ1 k sb => q σ1 k fun vs hv => (sb vs fun j hj => hv j (List.mem_cons_of_mem _ hj)).trans (wipe_set (hv i (List.mem_cons_self ..)))⟩
theorem setAll_len : ∀ {is : List Nat} {s s1 : Fr} {vs : List Va}, setAll s is vs = some s1 → vs.length = is.length
  | [], s, s1, vs, e => by
    cases vs with
    | nil => rfl
    | cons _ _ => cases e
  | i :: is, s, s1, vs, e => by
    cases vs with
    | nil => cases e
    | cons v vs => exact congrArg Nat.succ (setAll_len (is := is) e)
/-- the slots of a target -/
def LT.slots : LT → List Nat
  | .one i => [i]
  | .many is => is
  | .star is j => j :: is
theorem setT_ok {t : LT} {g : TG} {y : List Va × Bool} {s s1 : Fr} {σ : L2.St} {x : V} {Q : L2.St → Hp → Prop} (lt : LtOk X t g) (he : Emb M r h H) (hs : RF M r s σ) (e : setT t y s h = some s1) (yr : YR M r y x H H')
    (q : ∀ σ1, Gro M r H h r H' → RF M r s1 σ1 → SameBut t.slots σ σ1 → Q σ1 H') : g x σ H' Q := by
  cases t with
  | one i =>
    cases lt
    rcases yr with ⟨y2, v, y1, eh, z⟩ | ⟨y2, p, ys, ex, hp, eh, z⟩
    · have e : (match y.2 with
        | true => none
        | false => (match y.1 with
          | [v] => some (s.set i (some v))
          | _ => none)) = some s1 := e
      rw [y2, y1] at e
      cases e
      subst eh
      exact q _ (Gro.refl he) (hs.set z) fun vs hv => wipe_set (hv i (List.mem_cons_self ..))
    · have e : (match y.2 with
        | true => none
        | false => (match y.1 with
          | [v] => some (s.set i (some v))
          | _ => none)) = some s1 := e
      rw [y2] at e
      cases e
  | many is =>
    cases lt
    rcases yr with ⟨y2, v, y1, eh, z⟩ | ⟨y2, p, ys, ex, hp, eh, z⟩
    · have e : (match y.2 with
        | true => setAll s is y.1
        | false => (match y.1 with
          | [.ref a] => (match h.rd a with
            | some (.tup vs) => setAll s is vs
            | _ => none)
          | _ => none)) = some s1 := e
      rw [y2, y1] at e
      cases v with
      | ref a =>
        have e : (match h.rd a with
            | some (.tup vs) => setAll s is vs
            | _ => none) = some s1 := e
        split at e
        · rename_i vs c
          obtain ⟨p, ys, rfl, _, hl, ls⟩ := rd_tup he c z X.K
          subst eh
          exact ⟨p, ys, rfl, hl, by rw [← ls.length]; exact setAll_len e, setAll_ok e hs ls fun σ1 k sb => q σ1 (Gro.refl he) k sb⟩
        · cases e
      | _ => cases e
    · have e : (match y.2 with
        | true => setAll s is y.1
        | false => (match y.1 with
          | [.ref a] => (match h.rd a with
            | some (.tup vs) => setAll s is vs
            | _ => none)
          | _ => none)) = some s1 := e
      rw [y2] at e
      subst ex
      subst eh
      exact ⟨p, ys, rfl, SqT.of upd_same, by rw [← z.length]; exact setAll_len e, setAll_ok e hs z fun σ1 k sb => q σ1 (he.laid hp) k sb⟩
  | star a b => exact lt.elim

/-! ### for -/
theorem Cs.turn {x : RS} {k : Fr → Hv → RS} (q : Cs M W D r H (x.turn k)) : Cs M W { D with nx := fun σ' H' => ∃ r1 s1 h1, Gro M r H h1 r1 H' ∧ RF M r1 s1 σ' ∧ Cs M W D r1 H' (k s1 h1), ct := fun σ' H' => ∃ r1 s1 h1, Gro M r H h1 r1 H' ∧ RF M r1 s1 σ' ∧ Cs M W D r1 H' (k s1 h1), bk := D.nx } r H x := by
  cases x with
  | nx s h => exact fun r2 σ2 H2 g2 z => ⟨r2, s, h, g2, z, q.later g2⟩
  | rt v h => exact q
  | bk s h => exact fun r2 σ2 H2 g2 z => q r2 σ2 H2 g2 z
  | ct s h => exact fun r2 σ2 H2 g2 z => ⟨r2, s, h, g2, z, q.later g2⟩
  | ex c f s h => exact q
  | no => exact q
/-- the loop's invariant from the small loop -/
theorem for_ok {w : Wk} {J : It} {t : LT} {g : TG} {body : Fr → Hv → RS} {s : Fr} {σ : L2.St} (iw : IWk M X.K r H w J) (lt : LtOk X t g) (he : Emb M r h H) (hs : RF M r s σ) (q : Cs M W D r H (evF w t body w.len 0 s h)) :
    ∃ Wi : Nat → Nat → L2.St → Hp → Prop, (∃ m, Wi 0 m σ H) ∧ ∀ i m σ H, Wi i m σ H →
      (J.stop i H ∧ D.nx σ H) ∨ (J.go i H ∧ ∃ N : L2.St → Hp → Prop, (∀ σ' H', N σ' H' → ∃ m', m' < m ∧ Wi (i + 1) m' σ' H') ∧ ∀ x H', J.yld i H x H' → g x σ H' fun σ2 H2 => tS M W body { D with nx := N, ct := N, bk := D.nx } σ2 H2) := by
  refine ⟨fun i m σ H => ∃ r s h, IWk M X.K r H w J ∧ RF M r s σ ∧ Emb M r h H ∧ i + m = w.len ∧ Cs M W D r H (evF w t body m i s h), ⟨w.len, r, s, h, iw, hs, he, Nat.zero_add _, q⟩, ?_⟩
  rintro i m σ H ⟨r, s, h, iw, hs, he, hi, q⟩
  cases m with
  | zero =>
    have q : Cs M W D r H (match w.fin h with
      | true => .nx s h
      | false => .no) := q
    cases e : w.fin h with
    | false =>
      rw [e] at q
      exact q.elim
    | true =>
      rw [e] at q
      have hi : i = w.len := hi
      exact .inl ⟨by rw [hi]; exact wk_fin iw he e, Cs.nx q he hs⟩
  | succ k =>
    have q : Cs M W D r H (match w.yld i h with
      | none => .no
      | some y => match setT t y s h with
        | none => .no
        | some s1 => (body s1 h).turn fun s2 h2 => evF w t body k (i + 1) s2 h2) := q
    cases e : w.yld i h with
    | none =>
      rw [e] at q
      exact q.elim
    | some y =>
      rw [e] at q
      have q : Cs M W D r H (match setT t y s h with
        | none => .no
        | some s1 => (body s1 h).turn fun s2 h2 => evF w t body k (i + 1) s2 h2) := q
      cases e2 : setT t y s h with
      | none =>
        rw [e2] at q
        exact q.elim
      | some s1 =>
        rw [e2] at q
        have q : Cs M W D r H ((body s1 h).turn fun s2 h2 => evF w t body k (i + 1) s2 h2) := q
        obtain ⟨go, yl⟩ := wk_yld iw he e
        refine .inr ⟨go, fun σ' H' => ∃ r1 s2 h2, IWk M X.K r1 H' w J ∧ RF M r1 s2 σ' ∧ Emb M r1 h2 H' ∧ (i + 1) + k = w.len ∧ Cs M W D r1 H' (evF w t body k (i + 1) s2 h2), fun σ' H' z => ⟨k, Nat.lt_succ_self _, z⟩, fun x H' hy => ?_⟩
        refine setT_ok lt he hs e2 (yl x H' hy) fun σ1 g1 hs1 _ => ⟨r, s1, h, hs1, g1.emb, ?_⟩
        have q := (q.later g1).turn
        have fin : ∀ {σ' : L2.St} {H2 : Hp}, (∃ r1 s2 h2, Gro M r H' h2 r1 H2 ∧ RF M r1 s2 σ' ∧ Cs M W D r1 H2 (evF w t body k (i + 1) s2 h2)) → ∃ r1 s2 h2, IWk M X.K r1 H2 w J ∧ RF M r1 s2 σ' ∧ Emb M r1 h2 H2 ∧ (i + 1) + k = w.len ∧ Cs M W D r1 H2 (evF w t body k (i + 1) s2 h2) :=
          fun ⟨r1, s2, h2, g2, z, q2⟩ => ⟨r1, s2, h2, (iw.mono g1).mono g2, z, g2.emb, by omega, q2⟩
        exact q.imp (fun σ H z => fin z) (fun y H z => z) (fun σ H z => z) (fun σ H z => fin z)
/-- the iterator's rule: from the small arguments -/
structure ItOk (X : Cx) (M : Wd) (W : WX) (tg iter : Expr) (k : IK) (ga : Fr → Hv → Rs (List Va)) (wi : TI) : Prop where
  pi : PI X tg iter wi
  go : ∀ (σ : L2.St) (H : Hp) (R : It → Hp → Prop), tFA M W ga σ H (fun xs H1 => ∃ r1 us h1 w, Emb M r1 h1 H1 ∧ RVs M r1 us xs ∧ wkOf k us h1 = some w ∧ ∀ J, IWk M X.K r1 H1 w J → R J H1) → wi σ H R
theorem ss_for {iter : Expr} {b : List Stmt} {k : IK} {t : LT} {g : TG} {ga : Fr → Hv → Rs (List Va)} {wi : TI} {body : Fr → Hv → RS} {pos : Pos} (hp : PassesOwn (model X.prog X.w) X.A X.env X.xe) (hc : X.calm = true) (hi : ItOk X M W tg iter k ga wi) (hg : PG X tg g) (lt : LtOk X t g)
    (hb : PSs X b (tS M W body)) (hs : ∀ x, foldedSetIterable iter X.env x = pure x) : PS X (.For tg iter b [] pos) (tS M W fun s h => (ga s h).st s fun vs h1 => match wkOf k vs h1 with
      | none => .no
      | some w => evF w t body w.len 0 s h1) :=
  PS.imp (ps_for hp hc hi.pi hg hb hs) fun D σ H ⟨r, s, h, hs, he, q⟩ => hi.go σ H _ (tFA.stS hs he q fun r1 us h1 xs H1 g1 hs1 he1 z1 q1 => by
    cases e : wkOf k us h1 with
    | none =>
      rw [e] at q1
      exact q1.elim
    | some w =>
      rw [e] at q1
      exact ⟨r1, us, h1, w, he1, z1, e, fun J iw => for_ok iw lt he1 hs1 q1⟩)
/-- one argument -/
def gOne (f : Fr → Hv → Rs Va) : Fr → Hv → Rs (List Va) := fun s h => (f s h).bind fun v h1 => (Rs.ok ([] : List Va) h1).bind fun ys h2 => .ok (v :: ys) h2
theorem gOne_ok {f : Fr → Hv → Rs Va} {σ : L2.St} {H : Hp} {P : List V → Hp → Prop} (q : tFA M W (gOne f) σ H P) : tF M W f σ H fun x H1 => P [x] H1 := by
  obtain ⟨r, s, h, hs, he, q⟩ := q
  refine ⟨r, s, h, hs, he, ?_⟩
  have q : Cn M (XAt W σ) r H ((f s h).bind fun v h1 => (Rs.ok ([] : List Va) h1).bind fun ys h2 => .ok (v :: ys) h2) (RVs M) P := q
  revert q
  cases f s h with
  | ok v h1 => exact fun q r' y H' g z => q r' [y] H' g (.cons z .nil)
  | ex c fs h1 => exact fun q => q
  | no => exact fun q => q
theorem wk_one {v : Va} {w : Wk} (e : wkOf .it [v] h = some w) : (∃ x, v = .str x ∧ w = .str x) ∨ ∃ a, v = .ref a ∧ ((∃ xs, h.rd a = some (.lst xs) ∧ w = .lst a xs.length) ∨ (∃ xs, h.rd a = some (.tup xs) ∧ w = .tup a xs.length) ∨ ∃ kvs, h.get a = some (.frz (.dct kvs)) ∧ w = .dct a kvs) := by
  cases v with
  | str x =>
    cases e
    exact .inl ⟨x, rfl, rfl⟩
  | ref a =>
    have e : (match h.rd a with
      | some (.lst xs) => some (Wk.lst a xs.length)
      | some (.tup xs) => some (.tup a xs.length)
      | some (.dct kvs) => (match h.get a with
        | some (.frz _) => some (.dct a kvs)
        | _ => none)
      | _ => none) = some w := e
    split at e
    · rename_i xs q
      cases e
      exact .inr ⟨a, rfl, .inl ⟨xs, q, rfl⟩⟩
    · rename_i xs q
      cases e
      exact .inr ⟨a, rfl, .inr (.inl ⟨xs, q, rfl⟩)⟩
    · rename_i kvs q
      split at e
      · rename_i o q2
        cases e
        unfold Hv.rd at q
        rw [q2] at q
        cases q
        exact .inr ⟨a, rfl, .inr (.inr ⟨kvs, q2, rfl⟩)⟩
      · cases e
    · cases e
  | _ => cases e
theorem it_any {e : Expr} {f : Fr → Hv → Rs Va} (he : PE X e (tF M W f)) : ItOk X M W tg e .it (gOne f) (iAny X.K (tF M W f)) where
  pi := pi_any he
  go := fun σ H R q => by
    obtain ⟨r, s, h, hs, he, q⟩ := gOne_ok q
    refine ⟨r, s, h, hs, he, q.mono fun x H1 ⟨r1, us, h1, w, e1, z, ew, k⟩ => ?_⟩
    cases z with
    | cons z t =>
      cases t
      rcases wk_one ew with ⟨x, rfl, rfl⟩ | ⟨a, rfl, ⟨xs, e, rfl⟩ | ⟨xs, e, rfl⟩ | ⟨kvs, e, rfl⟩⟩
      · cases z
        exact .inr (.inr (.inl ⟨_, rfl, k _ rfl⟩))
      · obtain ⟨p, ys, rfl, hp, hl, ls⟩ := rd_lst e1 e z X.K
        exact .inl ⟨p, rfl, ⟨ys, hl⟩, k _ ⟨p, hp, rfl⟩⟩
      · obtain ⟨p, ys, rfl, hp, hl, ls⟩ := rd_tup e1 e z X.K
        exact .inr (.inl ⟨p, rfl, ⟨ys, hl⟩, k _ ⟨p, hp, rfl⟩⟩)
      · obtain ⟨p, u, hp, hu, ob, v, rfl, ys, rfl, ls⟩ := e1.at_ _ _ e
        obtain ⟨p', hp', rfl⟩ := z
        rw [hp] at hp'
        cases hp'
        exact .inr (.inr (.inr ⟨p, ob, ys, rfl, hu, k _ ⟨p, ob, ys, rfl, hu, ls⟩⟩))
theorem i62_ok {i : Int} (e : i62 i = true) : -(2 ^ 62) ≤ i ∧ i < 2 ^ 62 := by
  unfold i62 at e
  rw [Bool.and_eq_true] at e
  have h1 := of_decide_eq_true e.1
  have h2 := of_decide_eq_true e.2
  exact ⟨by omega, by omega⟩
/-- two arguments -/
def gTwo (f g : Fr → Hv → Rs Va) : Fr → Hv → Rs (List Va) := fun s h => (f s h).bind fun v h1 => (gOne g s h1).bind fun ys h2 => .ok (v :: ys) h2
theorem sa_one {e : Expr} {f : Fr → Hv → Rs Va} (hp : plainX e = true) (he : PE X e (tF M W f)) : PA X [e] (tFA M W (gOne f)) := sa_cons hp he sa_nil
theorem sa_two {e e2 : Expr} {f g : Fr → Hv → Rs Va} (hp : plainX e = true) (hp2 : plainX e2 = true) (he : PE X e (tF M W f)) (he2 : PE X e2 (tF M W g)) : PA X [e, e2] (tFA M W (gTwo f g)) := sa_cons hp he (sa_one hp2 he2)
theorem star1 {e : Expr} {env : Env} (hp : plainX e = true) : starEach [e] env = [(false, eval e env)] := starEach_plain [] env hp
theorem gOne_back {f : Fr → Hv → Rs Va} {σ : L2.St} {H : Hp} {P : List V → Hp → Prop} (q : tF M W f σ H fun x H1 => P [x] H1) : tFA M W (gOne f) σ H P := by
  obtain ⟨r, s, h, hs, he, q⟩ := q
  refine ⟨r, s, h, hs, he, ?_⟩
  show Cn M (XAt W σ) r H ((f s h).bind fun v h1 => (Rs.ok ([] : List Va) h1).bind fun ys h2 => .ok (v :: ys) h2) (RVs M) P
  revert q
  cases f s h with
  | ok v h1 =>
    intro q r' y H' g z
    cases z with
    | cons z t =>
      cases t
      exact q r' _ H' g z
  | ex c fs h1 => exact fun q => q
  | no => exact fun q => q
theorem gTwo_ok {f g : Fr → Hv → Rs Va} {σ : L2.St} {H : Hp} {P : List V → Hp → Prop} (q : tFA M W (gTwo f g) σ H P) : tFA M W (gTwo f g) σ H fun xs H1 => ∃ x y, xs = [x, y] ∧ P [x, y] H1 := by
  obtain ⟨r, s, h, hs, he, q⟩ := q
  refine ⟨r, s, h, hs, he, ?_⟩
  have q : Cn M (XAt W σ) r H ((f s h).bind fun v h1 => ((g s h1).bind fun v h1 => (Rs.ok ([] : List Va) h1).bind fun ys h2 => .ok (v :: ys) h2).bind fun ys h2 => .ok (v :: ys) h2) (RVs M) P := q
  show Cn M (XAt W σ) r H ((f s h).bind fun v h1 => ((g s h1).bind fun v h1 => (Rs.ok ([] : List Va) h1).bind fun ys h2 => .ok (v :: ys) h2).bind fun ys h2 => .ok (v :: ys) h2) (RVs M) _
  revert q
  cases f s h with
  | ok v h1 =>
    show Cn M (XAt W σ) r H (((g s h1).bind fun v h1 => (Rs.ok ([] : List Va) h1).bind fun ys h2 => .ok (v :: ys) h2).bind fun ys h2 => .ok (v :: ys) h2) (RVs M) P → Cn M (XAt W σ) r H (((g s h1).bind fun v h1 => (Rs.ok ([] : List Va) h1).bind fun ys h2 => .ok (v :: ys) h2).bind fun ys h2 => .ok (v :: ys) h2) (RVs M) _
    cases g s h1 with
    | ok w h2 =>
      intro q r' y H' g z
      cases z with
      | cons z t =>
        cases t with
        | cons z2 t2 =>
          cases t2
          exact ⟨_, _, rfl, q r' _ H' g (.cons z (.cons z2 .nil))⟩
    | ex c fs h1 => exact fun q => q
    | no => exact fun q => q
  | ex c fs h1 => exact fun q => q
  | no => exact fun q => q
theorem p1 {us : List Va} {x : V} (z : RVs M r us [x]) : ∃ v, us = [v] ∧ RV M r v x := by
  cases z with
  | cons z t =>
    cases t
    exact ⟨_, rfl, z⟩
theorem p2 {us : List Va} {x y : V} (z : RVs M r us [x, y]) : ∃ v w, us = [v, w] ∧ RV M r v x ∧ RV M r w y := by
  cases z with
  | cons z t =>
    cases t with
    | cons z2 t2 =>
      cases t2
      exact ⟨_, _, rfl, z, z2⟩
theorem it_rng1 {e : Expr} {f : Fr → Hv → Rs Va} {p pos : Pos} (hg : Gl X "range") (hm : X.mg "range" = none) (hp : plainX e = true) (he : PE X e (tF M W f)) : ItOk X M W tg (.Call (.Name "range" p) [e] [] pos) .rng (gOne f) (iRng1 (tFA M W (gOne f))) where
  pi := pi_range1 hg hm (sa_one hp he) (star1 hp)
  go := fun σ H R q => by
    obtain ⟨r, s, h, hs, he, q⟩ := gOne_ok q
    refine gOne_back ⟨r, s, h, hs, he, q.mono fun x H1 ⟨r1, us, h1, w, e1, z, ew, k⟩ => ?_⟩
    obtain ⟨v, rfl, z1⟩ := p1 z
    cases v with
    | int j =>
      have ew : (match i62 j with
        | true => some (Wk.rng 0 j.toNat)
        | false => none) = some w := ew
      split at ew
      · rename_i c
        cases ew
        cases z1
        have := i62_ok c
        exact ⟨j, rfl, this.1, this.2, k _ rfl⟩
      · cases ew
    | _ => cases ew
theorem it_rng2 {e e2 : Expr} {f g : Fr → Hv → Rs Va} {p pos : Pos} (hg : Gl X "range") (hm : X.mg "range" = none) (hp : plainX e = true) (hp2 : plainX e2 = true) (he : PE X e (tF M W f)) (he2 : PE X e2 (tF M W g)) : ItOk X M W tg (.Call (.Name "range" p) [e, e2] [] pos) .rng (gTwo f g) (iRng2 (tFA M W (gTwo f g))) where
  pi := pi_range2 hg hm (sa_two hp hp2 he he2) (by rw [starEach_plain _ _ hp, star1 hp2]) (star1 hp2)
  go := fun σ H R q => by
    obtain ⟨r, s, h, hs, he, q⟩ := gTwo_ok q
    refine ⟨r, s, h, hs, he, q.mono fun xs H1 ⟨x, y, exs, r1, us, h1, w, e1, z, ew, k⟩ => ?_⟩
    subst exs
    obtain ⟨v, v2, rfl, z1, z2⟩ := p2 z
    cases v with
    | int i =>
      cases v2 with
      | int j =>
        have ew : (match i62 i && i62 j with
          | true => some (Wk.rng i (j - i).toNat)
          | false => none) = some w := ew
        split at ew
        · rename_i c
          cases ew
          cases z1
          cases z2
          rw [Bool.and_eq_true] at c
          have h1 := i62_ok c.1
          have h2 := i62_ok c.2
          exact ⟨i, j, rfl, ⟨h1.1, h1.2, h2.1, h2.2⟩, k _ rfl⟩
        · cases ew
      | _ => cases ew
    | _ => cases ew
theorem it_enm {e : Expr} {f : Fr → Hv → Rs Va} {p pos tpos : Pos} {elts : List Expr} {kk : _} (hg : Gl X "enumerate") (hm : X.mg "enumerate" = none) (hp : plainX e = true) (he : PE X e (tF M W f)) : ItOk X M W (.Tuple elts kk tpos) (.Call (.Name "enumerate" p) [e] [] pos) .enm (gOne f) (iEnum X.K (tFA M W (gOne f))) where
  pi := pi_enum hg hm (sa_one hp he) (star1 hp)
  go := fun σ H R q => by
    obtain ⟨r, s, h, hs, he, q⟩ := gOne_ok q
    refine gOne_back ⟨r, s, h, hs, he, q.mono fun x H1 ⟨r1, us, h1, w, e1, z, ew, k⟩ => ?_⟩
    obtain ⟨v, rfl, z1⟩ := p1 z
    cases v with
    | ref a =>
      have ew : (match h1.rd a with
        | some (.lst xs) => some (Wk.enm a xs.length)
        | _ => none) = some w := ew
      split at ew
      · rename_i xs c
        cases ew
        obtain ⟨p, ys, rfl, hp, hl, ls⟩ := rd_lst e1 c z1 X.K
        exact ⟨p, ys, rfl, hl, k _ ⟨p, hp, rfl⟩⟩
      · cases ew
    | _ => cases ew
theorem it_zip {e e2 : Expr} {f g : Fr → Hv → Rs Va} {p pos tpos : Pos} {elts : List Expr} {kk : _} (hg : Gl X "zip") (hm : X.mg "zip" = none) (hp : plainX e = true) (hp2 : plainX e2 = true) (he : PE X e (tF M W f)) (he2 : PE X e2 (tF M W g)) : ItOk X M W (.Tuple elts kk tpos) (.Call (.Name "zip" p) [e, e2] [] pos) .zip (gTwo f g) (RZ.iZipA X.K (tFA M W (gTwo f g))) where
  pi := RZ.pi_zipA hg hm (sa_two hp hp2 he he2) (starEach_plain _ _ hp) (noStar (by rw [List.all_cons, hp2]; rfl))
  go := fun σ H R q => by
    obtain ⟨r, s, h, hs, he, q⟩ := gTwo_ok q
    refine ⟨r, s, h, hs, he, q.mono fun xs H1 ⟨x, y, exs, r1, us, h1, w, e1, z, ew, k⟩ => ?_⟩
    subst exs
    obtain ⟨v, v2, rfl, z1, z2⟩ := p2 z
    cases v with
    | ref a =>
      cases v2 with
      | ref b =>
        have ew : (match h1.rd a, h1.rd b with
          | some (.lst xs), some (.lst ys) => some (Wk.zip a b (min xs.length ys.length))
          | some (.tup xs), some (.tup ys) => some (.zipT a b (min xs.length ys.length))
          | _, _ => none) = some w := ew
        split at ew
        · rename_i xs ys c c2
          cases ew
          obtain ⟨p, us, rfl, hp, hl, ls⟩ := rd_lst e1 c z1 X.K
          obtain ⟨p2, us2, rfl, hp2, hl2, ls2⟩ := rd_lst e1 c2 z2 X.K
          exact ⟨p, p2, us, us2, rfl, .inl ⟨hl, hl2, k _ ⟨p, p2, hp, hp2, rfl⟩⟩⟩
        · rename_i xs ys c c2
          cases ew
          obtain ⟨p, us, rfl, hp, hl, ls⟩ := rd_tup e1 c z1 X.K
          obtain ⟨p2, us2, rfl, hp2, hl2, ls2⟩ := rd_tup e1 c2 z2 X.K
          exact ⟨p, p2, us, us2, rfl, .inr ⟨hl, hl2, k _ ⟨p, p2, hp, hp2, rfl⟩⟩⟩
        · cases ew
      | _ => cases ew
    | _ => cases ew

/-! ### while -/
/-- a while's turns by fuel -/
theorem ss_whl {c : Expr} {b : List Stmt} {pos : Pos} {fc : Nat → Fr → Hv → Rs Bool} {fb : Nat → Fr → Hv → RS} {wh : Nat → Fr → Hv → RS} (hp : PassesOwn (model X.prog X.w) X.A X.env X.xe) (hc : ∀ n, PT X c (tFT M W (fc n))) (hb : ∀ n, PSs X b (tS M W (fb n))) (h0 : ∀ s h, wh 0 s h = .no) (h1 : ∀ n s h, wh (n + 1) s h = (fc n s h).st s fun k h1 => match k with
      | true => (fb n s h1).turn fun s2 h2 => wh n s2 h2
      | false => .nx s h1) (n : Nat) : PS X (.While c b [] pos) (tS M W (wh n)) := by
  have hc2 : PT X c (fun σ H Q => ∃ m, tFT M W (fc m) σ H Q) := ⟨fun pins s σ H Q I ⟨m, q⟩ => (hc m).run pins s σ H Q I q⟩
  have hb2 : PSs X b (fun D σ H => ∃ m, tS M W (fb m) D σ H) := ⟨fun pins s σ H D I ⟨m, q⟩ => (hb m).run pins s σ H D I q⟩
  refine PS.imp (ps_while hp hc2 hb2) fun D σ H ⟨r, s, h, hs, he, q⟩ => ?_
  refine ⟨fun m σ H => ∃ r s h, RF M r s σ ∧ Emb M r h H ∧ Cs M W D r H (wh m s h), ⟨n, r, s, h, hs, he, q⟩, fun m σ H ⟨r, s, h, hs, he, q⟩ => ?_⟩
  cases m with
  | zero =>
    rw [h0] at q
    exact q.elim
  | succ m =>
    rw [h1] at q
    refine ⟨m, tFT.stS hs he q fun r1 v h1 H1 g1 hs1 he1 q1 => ?_⟩
    cases v with
    | false => exact (if_neg (by decide)).mpr (Cs.nx q1 he1 hs1)
    | true =>
      refine (if_pos rfl).mpr ⟨fun σ' H' => ∃ r1 s2 h2, RF M r1 s2 σ' ∧ Emb M r1 h2 H' ∧ Cs M W D r1 H' (wh m s2 h2), fun σ' H' z => ⟨m, Nat.lt_succ_self _, z⟩, m, r1, s, h1, hs1, he1, ?_⟩
      exact (Cs.turn q1).imp (fun σ H ⟨r1, s1, h1, g, z, q2⟩ => ⟨r1, s1, h1, z, g.emb, q2⟩) (fun y H z => z) (fun σ H z => z) (fun σ H ⟨r1, s1, h1, g, z, q2⟩ => ⟨r1, s1, h1, z, g.emb, q2⟩)
end
end MP
set_option linter.all false
set_option maxRecDepth 100000
set_option maxHeartbeats 4000000
/-! List comprehensions. -/
namespace MP
open PySem L2
section
variable {X : Cx} {M : Wd} {W : WX} {T : Tb} {r r' : List Addr} {h h' : Hv} {H H' : Hp} {K : PySem.W.Frag} {D D' : Ends} {tg : Expr}
abbrev WF : WX := fun _ _ _ _ => False
theorem wp_ok {s : Fr} {σ : L2.St} (q : RF M r s σ) : ∀ vs : List Nat, RF M r (wp s vs) (wipe σ vs)
  | [] => q
  | v :: vs => (wp_ok q vs).drop
theorem get_lstP (he : Emb M r h H) {a : Nat} {p : Addr} {xs : List Va} (hp : r[a]? = some p) (e : h.get a = some (.lst xs)) : ∃ ys, H p = some (.lst ys) ∧ RVs M r xs ys := by
  obtain ⟨p', ys, e2, hp', hl, ls⟩ := get_lst he e ⟨p, hp, rfl⟩
  cases e2
  exact ⟨ys, hl, ls⟩
/-- the comprehension's invariant from the small one -/
theorem lc_ok {w : Wk} {J : It} {t : LT} {g : TG} {cs : Fr → Hv → Rs Bool} {el : Fr → Hv → Rs Va} {s : Fr} {σ : L2.St} {ws : List Nat} {E : XK} {Q : VK} (iw : IWk M X.K r H w J) (lt : LtOk X t g) (hw : ∀ i ∈ t.slots, i ∈ ws) (he : Emb M r h H) (hs : RF M r s σ)
    (q : Cn M E r H (evL w t cs el (wp s ws) h.n w.len 0 (h.new (.lst []))) (RV M) Q) : ∀ D, H D = none → ∃ Wi : Nat → Nat → Hp → Prop, (∃ m, Wi 0 m (upd H D (.lst []))) ∧ ∀ i m H, Wi i m H →
      (J.stop i H ∧ Q (.ref D) H) ∨ (J.go i H ∧ ∃ Nx : Hp → Prop, (∀ H', Nx H' → ∃ m', m' < m ∧ Wi (i + 1) m' H') ∧ ∀ x H', J.yld i H x H' → g x (wipe σ ws) H' fun σ2 H2 => wipe σ2 ws = wipe σ ws ∧ tFT M WF cs σ2 H2 fun b H3 =>
        if b = true then tF M WF el σ2 H3 fun y H4 => ∃ acc, H4 D = some (.lst acc) ∧ acc.length < sizeLine ∧ Nx (upd H4 D (.lst (acc ++ [y]))) else Nx H3) := by
  intro D hD
  have g0 := he.alloc (o := .lst []) (u := .lst []) hD ⟨[], rfl, .nil⟩
  have hn : (r ++ [D])[h.n]? = some D := by
    rw [← he.len]
    exact get_last r D
  refine ⟨fun i m H => ∃ r1 h1, IWk M X.K r1 H w J ∧ RF M r1 (wp s ws) (wipe σ ws) ∧ Emb M r1 h1 H ∧ r1[h.n]? = some D ∧ i + m = w.len ∧ Cn M E r1 H (evL w t cs el (wp s ws) h.n m i h1) (RV M) Q, ⟨w.len, r ++ [D], _, iw.mono g0, (wp_ok hs ws).mono g0.pre, g0.emb, hn, Nat.zero_add _, q.later g0⟩, ?_⟩
  rintro i m H1 ⟨r1, h1, iw, hs1, he1, hp, hi, q⟩
  cases m with
  | zero =>
    have q : Cn M E r1 H1 (match w.fin h1 with
      | true => .ok (.ref h.n) h1
      | false => .no) (RV M) Q := q
    cases e : w.fin h1 with
    | false =>
      rw [e] at q
      exact q.elim
    | true =>
      rw [e] at q
      have hi : i = w.len := hi
      exact .inl ⟨by rw [hi]; exact wk_fin iw he1 e, Cn.ok (v := Va.ref h.n) q he1 ⟨D, hp, rfl⟩⟩
  | succ k =>
    have q : Cn M E r1 H1 (match w.yld i h1 with
      | none => .no
      | some y => match setT t y (wp s ws) h1 with
        | none => .no
        | some s1 => match cs s1 h1 with
          | .ok b h2 => (match b with
            | true => (match el s1 h2 with
              | .ok v h3 => (match h3.get h.n with
                | some (.lst acc) => (match Nat.blt acc.length Bnd with
                  | true => evL w t cs el (wp s ws) h.n k (i + 1) (h3.set h.n (.lst (acc ++ [v])))
                  | false => .no)
                | _ => .no)
              | _ => .no)
            | false => evL w t cs el (wp s ws) h.n k (i + 1) h2)
          | _ => .no) (RV M) Q := q
    cases e : w.yld i h1 with
    | none =>
      rw [e] at q
      exact q.elim
    | some y =>
      rw [e] at q
      have q : Cn M E r1 H1 (match setT t y (wp s ws) h1 with
        | none => .no
        | some s1 => match cs s1 h1 with
          | .ok b h2 => (match b with
            | true => (match el s1 h2 with
              | .ok v h3 => (match h3.get h.n with
                | some (.lst acc) => (match Nat.blt acc.length Bnd with
                  | true => evL w t cs el (wp s ws) h.n k (i + 1) (h3.set h.n (.lst (acc ++ [v])))
                  | false => .no)
                | _ => .no)
              | _ => .no)
            | false => evL w t cs el (wp s ws) h.n k (i + 1) h2)
          | _ => .no) (RV M) Q := q
      cases e2 : setT t y (wp s ws) h1 with
      | none =>
        rw [e2] at q
        exact q.elim
      | some s1 =>
        rw [e2] at q
        have q : Cn M E r1 H1 (match cs s1 h1 with
          | .ok b h2 => (match b with
            | true => (match el s1 h2 with
              | .ok v h3 => (match h3.get h.n with
                | some (.lst acc) => (match Nat.blt acc.length Bnd with
                  | true => evL w t cs el (wp s ws) h.n k (i + 1) (h3.set h.n (.lst (acc ++ [v])))
                  | false => .no)
                | _ => .no)
              | _ => .no)
            | false => evL w t cs el (wp s ws) h.n k (i + 1) h2)
          | _ => .no) (RV M) Q := q
        obtain ⟨go, yl⟩ := wk_yld iw he1 e
        refine .inr ⟨go, fun H' => ∃ r2 h2, IWk M X.K r2 H' w J ∧ RF M r2 (wp s ws) (wipe σ ws) ∧ Emb M r2 h2 H' ∧ r2[h.n]? = some D ∧ (i + 1) + k = w.len ∧ Cn M E r2 H' (evL w t cs el (wp s ws) h.n k (i + 1) h2) (RV M) Q, fun H' z => ⟨k, Nat.lt_succ_self _, z⟩, fun x H' hy => ?_⟩
        refine setT_ok lt he1 hs1 e2 (yl x H' hy) fun σ1 g1 hs2 sb => ⟨?_, ?_⟩
        · rw [sb ws hw]
          clear sb hs2
          have : ∀ vs : List Nat, wipe (wipe σ ws) vs = wipe σ ws ∨ True := fun _ => .inr True.intro
          have idem : ∀ (us vs : List Nat), (∀ i ∈ us, i ∈ vs) → wipe (wipe σ vs) us = wipe σ vs := fun us vs => by
            induction us with
            | nil =>
              intro _
              rfl
            | cons u us ih =>
              intro hu
              show (wipe (wipe σ vs) us).set u none = wipe σ vs
              rw [ih fun i hi => hu i (List.mem_cons_of_mem _ hi)]
              have : ∀ vs : List Nat, u ∈ vs → (wipe σ vs).set u none = wipe σ vs := fun vs => by
                induction vs with
                | nil =>
                  intro z
                  cases z
                | cons v vs ih2 =>
                  intro z
                  show ((wipe σ vs).set v none).set u none = (wipe σ vs).set v none
                  by_cases c : u = v
                  · subst c
                    rw [List.set_set]
                  · rcases List.mem_cons.mp z with k | k
                    · exact absurd k c
                    · rw [List.set_comm _ _ (Ne.symm c), ih2 k]
              exact this vs (hu u (List.mem_cons_self ..))
          exact idem ws ws fun _ z => z
        · have q := q.later g1
          revert q
          cases ec : cs s1 h1 with
          | no => exact fun q => q.elim
          | ex c f h2 => exact fun q => q.elim
          | ok b h2 =>
            intro q
            refine ⟨r1, s1, h1, hs2, g1.emb, ?_⟩
            rw [ec]
            intro r2 b' H2 g2 eb
            cases eb
            have q := Cn.later g2 q
            cases b with
            | false => exact (if_neg (by decide)).mpr ⟨r2, h2, (iw.mono g1).mono g2, hs1.mono g2.pre, g2.emb, pre_get g2.pre hp, by omega, q⟩
            | true =>
              refine (if_pos rfl).mpr ⟨r2, s1, h2, hs2.mono g2.pre, g2.emb, ?_⟩
              have q : Cn M E r2 H2 (match el s1 h2 with
                | .ok v h3 => (match h3.get h.n with
                  | some (.lst acc) => (match Nat.blt acc.length Bnd with
                    | true => evL w t cs el (wp s ws) h.n k (i + 1) (h3.set h.n (.lst (acc ++ [v])))
                    | false => .no)
                  | _ => .no)
                | _ => .no) (RV M) Q := q
              revert q
              cases ee : el s1 h2 with
              | no => exact fun q => q.elim
              | ex c f h3 => exact fun q => q.elim
              | ok v h3 =>
                intro q r3 y3 H3 g3 z3
                have q := Cn.later g3 q
                have q : Cn M E r3 H3 (match h3.get h.n with
                  | some (.lst acc) => (match Nat.blt acc.length Bnd with
                    | true => evL w t cs el (wp s ws) h.n k (i + 1) (h3.set h.n (.lst (acc ++ [v])))
                    | false => .no)
                  | _ => .no) (RV M) Q := q
                have hp3 := pre_get g3.pre (pre_get g2.pre hp)
                split at q
                · rename_i acc ea
                  obtain ⟨ys, hy, ls⟩ := get_lstP g3.emb hp3 ea
                  split at q
                  · rename_i lb
                    refine ⟨ys, hy, by rw [← ls.length]; exact bnd_lt lb, ?_⟩
                    have g4 := g3.emb.set hp3 hy True.intro (o := .lst (acc ++ [v])) (u := .lst (ys ++ [y3])) ⟨_, rfl, pApp ls (.cons z3 .nil)⟩
                    exact ⟨r3, _, (((iw.mono g1).mono g2).mono g3).mono g4, (hs1.mono g2.pre).mono g3.pre, g4.emb, hp3, by omega, q.later g4⟩
                  · exact q.elim
                · exact q.elim
/-- the reading of a comprehension from the small one -/
theorem lc_read {iter : Expr} {k : IK} {ga : Fr → Hv → Rs (List Va)} {wi : TI} {t : LT} {g : TG} {cs : Fr → Hv → Rs Bool} {el : Fr → Hv → Rs Va} {ws : List Nat} (hi : ItOk X M W tg iter k ga wi) (lt : LtOk X t g) (hw : ∀ i ∈ t.slots, i ∈ ws) (σ : L2.St) (H : Hp) (Q : VK)
    (q : tF M W (fun s h => (ga s h).bind fun vs h1 => match wkOf k vs h1 with
      | none => .no
      | some w => evL w t cs el (wp s ws) h1.n w.len 0 (h1.new (.lst []))) σ H Q) : tLc wi g (tFT M WF cs) (tF M WF el) ws σ H Q := by
  obtain ⟨r, s, h, hs, he, q⟩ := q
  exact hi.go σ H _ (tFA.step hs he q fun r1 us h1 xs H1 g1 hs1 he1 z1 q1 => by
    cases e : wkOf k us h1 with
    | none =>
      rw [e] at q1
      exact q1.elim
    | some w =>
      rw [e] at q1
      exact ⟨r1, us, h1, w, he1, z1, e, fun J iw => lc_ok iw lt hw he1 hs1 q1⟩)
end
end MP
set_option linter.all false
set_option maxRecDepth 100000
set_option maxHeartbeats 4000000
/-! Stores by index, augmented names, methods of lists. -/
namespace MP
open PySem L2
section
variable {X : Cx} {M : Wd} {W : WX} {T : Tb} {r r' : List Addr} {h h' : Hv} {H H' : Hp} {K : PySem.W.Frag} {D D' : Ends} {tg : Expr}
/-! ### xs[i] = v -/
def noSl : Expr → Bool
  | .Slice _ _ _ _ => false
  | _ => true
theorem plainIx {b : Expr} (h : noSl b = true) : PlainIx b := by
  intro o i
  cases b <;> first | rfl | cases h
theorem asg_sub {o i : Expr} {pos : Pos} {env : Env} (h : noSl i = true) (v : Value) : assign (.Subscript o i pos) env v = (do
      let ov ← holding [v] (eval o env)
      let iv ← holding [v, ov] (eval i env)
      standAt pos
      holding [v, ov, iv] (setItem ov iv v)
      release [v, ov, iv] []) := by
  cases i <;> first | rfl | cases h
theorem swaps_sub1 (e : Expr) {o i : Expr} {p : Pos} {n : Nat} {env : Env} : swapsWithSole [.Subscript o i p] e n env = pure false := swaps_sub e (o := o) (i := i) (p := p) (n := n) (env := env)
theorem swaps1 {t e : Expr} {n : Nat} {env : Env} (h : noLC e = true) : swapsWithSole [t] e n env = pure false := swaps_no (tg := some t) h
theorem pSetP {α β : Type} {F : α → β → Prop} {a : List α} {c : List β} {x : α} {y : β} (p : Paired F a c) (z : F x y) (i : Nat) : Paired F (a.set i x) (c.set i y) := pSet p z i
theorem ixO_len {n m : Nat} (e : n = m) (i : Int) : ixO n i = ixO m i := by rw [e]
theorem ss_sub {o i e : Expr} {pos pos' : Pos} {fo fi fe : Fr → Hv → Rs Va} (ho : PE X o (tF M W fo)) (hi : PE X i (tF M W fi)) (he : PE X e (tF M W fe)) (hs : noSl i = true) :
    PS X (.Assign [.Subscript o i pos'] e pos) (tS M W fun s h => (fe s h).st s fun v h1 => (fo s h1).st s fun x h2 => (fi s h2).st s fun k h3 => setI v x k s h3) := by
  refine PS.imp (ps_asg he (pg_sub ho hi set_list (asg_sub hs)) (swaps_sub1 e) (by cases e <;> rfl)) fun D σ H ⟨r, s, h, hs, he, q⟩ => tF.stS hs he q fun r1 v h1 y H1 g1 hs1 he1 z1 q1 => tF.stS hs1 he1 q1 fun r2 x h2 y2 H2 g2 hs2 he2 z2 q2 => tF.stS hs2 he2 q2 fun r3 k h3 y3 H3 g3 hs3 he3 z3 q3 => ?_
  cases x with
  | ref a =>
    have q3 : Cs M W D r3 H3 (match h3.get a with
      | some (.lst xs) => (match (generalizing := false) k with
        | .int k => (match ixO xs.length k with
          | some j => .nx s (h3.set a (.lst (xs.set j v)))
          | none => .no)
        | _ => .no)
      | _ => .no) := q3
    split at q3
    · rename_i xs ea
      cases k with
      | int k =>
        have q3 : Cs M W D r3 H3 (match ixO xs.length k with
          | some j => .nx s (h3.set a (.lst (xs.set j v)))
          | none => .no) := q3
        split at q3
        · rename_i j ej
          obtain ⟨p, ys, rfl, hp, hl, ls⟩ := get_lst he3 ea (z2.mono g3.pre)
          refine ⟨p, ys, k, j, rfl, z3, hl, by rw [← ls.length, ← ixO_ok]; exact ej, ?_⟩
          have g := he3.set hp hl True.intro (o := .lst (xs.set j v)) (u := .lst (ys.set j y)) ⟨_, rfl, pSet ls ((z1.mono g2.pre).mono g3.pre) j⟩
          exact q3 r3 σ _ g hs3
        · exact q3.elim
      | _ => exact q3.elim
    · exact q3.elim
  | _ => exact q3.elim

/-! ### x op= e, ints -/
def rInp : BO → R2
  | .add => rI0 fun i j => .int (i + j)
  | .sub => rI0 fun i j => .int (i - j)
  | .mul => rI CMul fun i j => .int (i * j)
  | _ => fun _ _ _ _ => False
theorem o_inp (o : BO) : PIp X (bOp o) (rInp o) := by
  cases o with
  | add => exact iop_add
  | sub => exact iop_sub
  | mul => exact iop_mul
  | _ => exact fun pins s σ H x y v u Q I r1 r2 q => q.elim
theorem s_inp (o : BO) : OpS M (rInp o) (augI o) := fun E r h H v w x y Q he z1 z2 q => by
  cases v with
  | int i =>
    cases w with
    | int j =>
      cases o with
      | add => exact ⟨i, j, z1, z2, Cn.ok (v := Va.int (i + j)) q he rfl⟩
      | sub => exact ⟨i, j, z1, z2, Cn.ok (v := Va.int (i - j)) q he rfl⟩
      | mul =>
        obtain ⟨hb, q⟩ := Cn.gd (x := Rs.ok (Va.int (i * j)) h) q
        refine ⟨i, j, z1, z2, ?_, q.ok he rfl⟩
        rcases Bool.or_eq_true_iff.mp hb with k | k
        · exact .inl (i64_ok k)
        · exact .inr (i64_ok k)
      | _ => exact q.elim
    | _ => cases o <;> exact q.elim
  | _ => exact q.elim
theorem ss_aug {i : Nat} {x : Str} {e : Expr} {pos pos' : Pos} {o : BO} {fe : Fr → Hv → Rs Va} (hN : X.N.Nodup) (hi : X.N[i]? = some x) (hx : Loc X.env.scope x) (he : PE X e (tF M W fe)) (hf : X.fn x = true ∨ X.env.scope.names.lookup x = some .local) :
    PS X (.AugAssign (.Name x pos') (bOp o) e pos) (tS M W fun s h => (getV s i h).st s fun v h0 => (fe s h0).st s fun w h1 => (augI o v w h1).st s fun z h2 => .nx (s.set i (some z)) h2) :=
  PS.imp (ps_aug hN hi hx he (o_inp o) hf) fun D σ H ⟨r, s, h, hs, he, q⟩ => by
    have q : Cs M W D r H ((getV s i h).st s fun v h0 => (fe s h0).st s fun w h1 => (augI o v w h1).st s fun z h2 => .nx (s.set i (some z)) h2) := q
    unfold getV at q
    cases ev : s[i]? with
    | none =>
      rw [ev] at q
      exact q.elim
    | some ov =>
      rw [ev] at q
      cases ov with
      | none => exact q.elim
      | some v =>
        obtain ⟨y, e1, z⟩ := hs.get ev
        have q : Cs M W D r H ((fe s h).st s fun w h1 => (augI o v w h1).st s fun z h2 => .nx (s.set i (some z)) h2) := q
        refine ⟨y, e1, tF.stS hs he q fun r1 w h1 y1 H1 g1 hs1 he1 z1 q1 => ?_⟩
        exact s_inp (M := M) o (XAt W σ) r1 h1 H1 v w y y1 _ he1 (z.mono g1.pre) z1 ((Cs.st hs1 q1).mono fun y2 H2 ⟨r2, v2, h2, g2, z2, q2⟩ => Cs.nx q2 g2.emb ((hs1.mono g2.pre).set z2))

/-! ### methods of lists -/
def mT : Bm → String
  | .append => "list"
  | .pop => "list"
  | _ => ""
def mName : Bm → Str
  | .append => "append"
  | .insert => "insert"
  | .pop => "pop"
  | .extend => "extend"
  | .index => "index"
  | .get => "get"
  | .items => "items"
  | .join => "join"
  | .split => "split"
  | .clear => "clear"
  | .count => "count"
/-- a method by the small one; what it is a method of -/
def MtS (M : Wd) (K : PySem.W.Frag) (Ty : String) (rr : V → List V → Hp → VK → Prop) (g : Va → List Va → Hv → Rs Va) (v : Va) (vs : List Va) (h : Hv) : Prop :=
  ∀ (E : XK) (r : List Addr) (H : Hp) (x : V) (xs : List V) (Q : VK), Emb M r h H → RV M r v x → RVs M r vs xs → Cn M E r H (g v vs h) (RV M) Q → rr x xs H Q
theorem s_append {v : Va} {vs : List Va} : MtS M K "list" rAppend (opBme .append) v vs h := fun E r H x xs Q he z zs q => by
  obtain ⟨w, y, rfl, z1, q⟩ := vs1 zs q
  cases v with
  | ref a =>
    have q : Cn M E r H (match h.get a with
      | some (.lst xs) => gd (Nat.blt xs.length Bnd) (.ok .non (h.set a (.lst (xs ++ [w]))))
      | _ => .no) (RV M) Q := q
    split at q
    · rename_i us e
      obtain ⟨hb, q⟩ := q.gd
      obtain ⟨p, ys, rfl, hp, hl, ls⟩ := get_lst he e z
      refine ⟨p, ys, y, rfl, rfl, hl, by rw [← ls.length]; exact bnd_lt hb, ?_⟩
      exact Cn.okG (v := Va.non) q (he.set hp hl True.intro (o := .lst (us ++ [w])) (u := .lst (ys ++ [y])) ⟨_, rfl, pApp ls (.cons z1 .nil)⟩) rfl
    · exact q.elim
  | _ => exact q.elim
theorem none0_ok {vs : List Va} {xs : List V} {Q : VK} {E : XK} {g : Rs Va} (z : RVs M r vs xs) (q : Cn M E r H (none0 vs g) (RV M) Q) : xs = [] ∧ Cn M E r H g (RV M) Q := by
  cases z with
  | nil => exact ⟨rfl, q⟩
  | cons _ _ => exact q.elim
theorem s_pop {v : Va} {vs : List Va} : MtS M K "list" rPop (opBme .pop) v vs h := fun E r H x xs Q he z zs q => by
  obtain ⟨rfl, q⟩ := none0_ok zs q
  cases v with
  | ref a =>
    have q : Cn M E r H (match h.get a with
      | some (.lst xs) => (match xs.getLast? with
        | some v => .ok v (h.set a (.lst xs.dropLast))
        | none => .no)
      | _ => .no) (RV M) Q := q
    split at q
    · rename_i us e
      split at q
      · rename_i w e2
        obtain ⟨p, ys, rfl, hp, hl, ls⟩ := get_lst he e z
        rw [List.getLast?_eq_getElem?] at e2
        obtain ⟨y, ey, zy⟩ := pGet ls e2
        have dl : RVs M r us.dropLast ys.dropLast := by
          rw [List.dropLast_eq_take, List.dropLast_eq_take, ls.length]
          exact pTake ls _
        refine ⟨p, ys, y, rfl, rfl, hl, by rw [← ls.length]; exact ey, ?_⟩
        exact Cn.okG (v := w) q (he.set hp hl True.intro (o := .lst us.dropLast) (u := .lst ys.dropLast) ⟨_, rfl, dl⟩) zy
      · exact q.elim
    · exact q.elim
  | _ => exact q.elim
/-- the methods' rules -/
def rM (m : Bm) : V → List V → Hp → VK → Prop := match m with
  | .append => rAppend
  | .pop => rPop
  | _ => fun _ _ _ _ => False
theorem s_bme (m : Bm) {v : Va} {vs : List Va} : MtS M K (mT m) (rM m) (opBme m) v vs h := by
  cases m with
  | append => exact s_append
  | pop => exact s_pop
  | _ => exact fun E r H x xs Q he z zs q => q
theorem isL_ok {v : Va} {x : V} (he : Emb M r h H) (z : RV M r v x) (e : isL h v = true) : tyV K "list" x H := by
  cases v with
  | ref a =>
    have e : (match h.get a with
      | some (.lst _) => true
      | _ => false) = true := e
    split at e
    · rename_i us e1
      obtain ⟨p, ys, rfl, hp, hl, ls⟩ := get_lst he e1 z
      exact .inl ⟨rfl, ys, Or.inl (Or.inl hl)⟩
    · cases e
  | _ => cases e
theorem rcv_ok {m : Bm} {v : Va} {x : V} (he : Emb M r h H) (z : RV M r v x) (e : rcv m v h = true) : tyV K (mT m) x H := by
  cases m with
  | append => exact isL_ok he z e
  | pop => exact isL_ok he z e
  | _ => cases e
def mOK : Bm → Bool
  | .append => true
  | _ => false
theorem fewB {es : List Expr} {env : Env} {pos : Pos} (hp : es.all plainX = true) (hn : Nat.blt es.length 30 = true) : ((backTo pos (starEach es env)).all (fun x => !x.1) && (backToKw pos (keywordEach [] env)).all (fun x => x.1.isSome)
      && decide (es.length + ([] : List Keyword).length + (if ([] : List Keyword).isEmpty then 0 else 1) < 30)) = true := by
  have h1 : (backTo pos (starEach es env)).all (fun x => !x.1) = true := by
    rw [List.all_eq_not_any_not]
    simp only [Bool.not_not]
    rw [noStar hp]
    rfl
  have h2 : es.length < 30 := Nat.le_of_ble_eq_true hn
  rw [h1]
  show (true && true && decide (es.length + 0 + 0 < 30)) = true
  simpa using h2
theorem se_bme (m : Bm) (hk : mOK m = true) {o e : Expr} {es : List Expr} {apos pos : Pos} {fo : Fr → Hv → Rs Va} {ga : Fr → Hv → Rs (List Va)} (ho : PE X o (tF M W fo)) (ha : PA X (e :: es) (tFA M W ga)) (hp : (e :: es).all plainX = true) (hsu : supB o = true) (hl : (apos.endLine == pos.line) = true) (hn : Nat.blt (e :: es).length 30 = true) :
    PE X (.Call (.Attribute o (mName m) apos) (e :: es) [] pos) (tF M W fun s h => (fo s h).bind fun x h1 => gd (rcv m x h1) ((ga s h1).bind fun vs h2 => opBme m x vs h2)) := by
  have hp2 := hp
  rw [List.all_cons, Bool.and_eq_true] at hp2
  have fin : ∀ {σ : L2.St} {H : Hp} {Q : VK}, tF M W (fun s h => (fo s h).bind fun x h1 => gd (rcv m x h1) ((ga s h1).bind fun vs h2 => opBme m x vs h2)) σ H Q → tBM X.K (mT m) (rM m) (tF M W fo) (tFA M W ga) σ H Q := fun {σ H Q} ⟨r, s, h, hs, he, q⟩ => tF.step hs he q fun r1 v h1 y H1 g1 hs1 he1 z1 q1 => by
    obtain ⟨hr, q1⟩ := q1.gd
    exact ⟨rcv_ok he1 z1 hr, tFA.step hs1 he1 q1 fun r2 w h2 y2 H2 g2 hs2 he2 z2 q2 => s_bme (K := X.K) m (XAt W σ) r2 H2 y y2 Q he2 (z1.mono g2.pre) z2 q2⟩
  cases m with
  | append => exact PE.imp (pe_bm PySem.F.plainAttrs_list PySem.F.slot_list_append (by rfl) mt_append ho ha (attrB hsu) (fewB hp hn) hl (starEach_plain es X.env hp2.1) (noStar hp2.2)) fun σ H Q q => fin q
  | _ => cases hk
theorem se_bme0 (m : Bm) (hk : m = .pop) {o : Expr} {apos pos : Pos} {fo : Fr → Hv → Rs Va} (ho : PE X o (tF M W fo)) (hsu : supB o = true) (hl : (apos.endLine == pos.line) = true) :
    PE X (.Call (.Attribute o (mName m) apos) [] [] pos) (tF M W fun s h => (fo s h).bind fun x h1 => gd (rcv m x h1) (opBme m x [] h1)) := by
  have fin : ∀ {σ : L2.St} {H : Hp} {Q : VK}, tF M W (fun s h => (fo s h).bind fun x h1 => gd (rcv m x h1) (opBme m x [] h1)) σ H Q → tBM0 X.K (mT m) (rM m) (tF M W fo) σ H Q := fun {σ H Q} ⟨r, s, h, hs, he, q⟩ => tF.step hs he q fun r1 v h1 y H1 g1 hs1 he1 z1 q1 => by
    obtain ⟨hr, q1⟩ := q1.gd
    exact ⟨rcv_ok he1 z1 hr, s_bme (K := X.K) m (XAt W σ) r1 H1 y [] Q he1 z1 .nil q1⟩
  subst hk
  exact PE.imp (pe_bm0 PySem.F.plainAttrs_list PySem.F.slot_list_pop (by rfl) mt_pop ho (attrB hsu) hl) fun σ H Q q => fin q
end
end MP
set_option linter.all false
set_option maxRecDepth 100000
set_option maxHeartbeats 4000000
/-! From the text to the small language. -/
namespace MP
open PySem L2
/-- what a name of the module's top is -/
inductive GK where
  | fn (f : Nat) | cls (c : Nat) | cst (v : Va)
  /-- under the key C.m: the static method m of the class c, its def -/
  | sm (c : Nat) (m : Str) (f : Nat)
  /-- the def that gets a lambda -/
  | why
structure CS where
  N : List Str
  sc : Scope
  gt : List (Str × GK)
  an : List Str
  /-- may lambdas be made here -/
  lam : Bool
def ixS (x : Str) : List Str → Nat → Option Nat
  | [], _ => none
  | y :: r, i => match decide (y = x) with
    | true => some i
    | false => ixS x r (i + 1)
def CS.sl (S : CS) (x : Str) : Option Nat := match S.sc.names.lookup x with
  | some .local => ixS x S.N 0
  | some .cell => ixS x S.N 0
  | some .free => ixS x S.N 0
  | _ => none
/-- a slot that may be written -/
def CS.ws (S : CS) (x : Str) : Option Nat := match S.sc.names.lookup x with
  | some .local => ixS x S.N 0
  | some .cell => ixS x S.N 0
  | _ => none
def CS.isG (S : CS) (x : Str) : Bool := match S.sc.names.lookup x with
  | some .globalImplicit => true
  | _ => false
def CS.gl (S : CS) (x : Str) : Option GK := match S.isG x with
  | true => S.gt.lookup x
  | false => none
def CS.fi (S : CS) (x : Str) : Option Nat := ixS x S.an 0
/-- a built-in's name, not one of the module -/
def CS.bi (S : CS) (x : Str) : Bool := match S.isG x with
  | true => (match S.gt.lookup x with
    | none => true
    | some _ => false)
  | false => false
def okName (x : Str) : Bool := !(x == ("__debug__" : Str)) && !(x == ("__classdict__" : Str))
def cCst (c : Const) : Option Va := match c with
  | .none => some .non
  | .bool b => some (.bl b)
  | .int i => some (.int i)
  | .str x => some (.str x.cps.toList)
  | _ => none
def cBO (o : Operator) : Option BO := match o with
  | .Add => some .add
  | .Sub => some .sub
  | .Mult => some .mul
  | .FloorDiv => some .fdv
  | .Mod => some .mod
  | .Pow => some .pow
  | _ => none
def cCO (o : CmpOp) : Option CO := match o with
  | .Eq => some .eq
  | .NotEq => some .ne
  | .Lt => some .lt
  | .LtE => some .le
  | .Gt => some .gt
  | .GtE => some .ge
  | .In => some .isin
  | .NotIn => some .notin
  | _ => none
def bfs : List (Str × Bf) := [("len", .len), ("abs", .abs), ("max", .max), ("min", .min), ("int", .int), ("list", .list), ("tuple", .tuple), ("sum", .sum), ("all", .all), ("any", .any)]
def tys : List (Str × TyC) := [("int", .int), ("bool", .bool), ("str", .str), ("list", .list), ("tuple", .tuple), ("ValueError", .verr), ("LookupError", .lerr), ("IndexError", .ierr)]
def noSet : Expr → Bool
  | .Set _ _ _ => false
  | _ => true
def bind2 {α β γ : Type} (x : Option α) (y : Option β) (f : α → β → γ) : Option γ := match x, y with
  | some a, some b => some (f a b)
  | _, _ => none
def guardO {α : Type} (b : Bool) (x : Option α) : Option α := match b with
  | true => x
  | false => none
/-- a class's name -/
def cTy (S : CS) (e : Expr) : Option TyC := match e with
  | .Name x _ => (match S.bi x with
    | true => tys.lookup x
    | false => (match S.gl x with
      | some (.cls c) => guardO (okName x) (some (.cls c))
      | _ => none))
  | _ => none
/-- a name that is stored -/
def cNm (S : CS) (e : Expr) : Option Nat := match e with
  | .Name x _ => S.ws x
  | _ => none
def cLT (S : CS) (e : Expr) : Option LT := match e with
  | .Name x _ => (S.ws x).map .one
  | .Tuple es _ _ => (mapO (cNm S) es).map .many
  | _ => none
def joinB (o : BoolOp) (x y : Ex) : Ex := match o with
  | .And => .and x y
  | .Or => .or x y
def foldB (o : BoolOp) : List Ex → Option Ex
  | [] => none
  | [x] => some x
  | x :: r => match foldB o r with
    | none => none
    | some y => some (joinB o x y)
def isNC (e : Expr) : Bool := match e with
  | .Constant .none _ _ => true
  | _ => false
def noStarB (es : List Expr) : Bool := es.all plainX
def oneS (o : Option α) : Option (List α) := o.map fun x => [x]
/-- a comprehension's own names with their slots -/
def ownOf (N : List Str) (sc : Scope) : List (Str × Nat) := sc.names.filterMap fun y => match y.2 with
  | .local => (ixS y.1 N 0).map fun i => (y.1, i)
  | .cell => (ixS y.1 N 0).map fun i => (y.1, i)
  | _ => none
/-- an iterable -/
def cIt (S : CS) (ih : Expr → Option Ex) (tg iter : Expr) : Option (IK × List Ex) := match iter with
  | .Call (.Name x _) args [] _ => (match S.bi x && noStarB args && noSet iter with
    | true => (match decide (x = "range") && (match args with
        | [_] => true
        | [_, _] => true
        | _ => false) with
      | true => (mapO ih args).map fun es => (.rng, es)
      | false => (match decide (x = "enumerate") && (match args, tg with
          | [_], .Tuple _ _ _ => true
          | _, _ => false) with
        | true => (mapO ih args).map fun es => (.enm, es)
        | false => (match decide (x = "zip") && (match args, tg with
            | [_, _], .Tuple _ _ _ => true
            | _, _ => false) with
          | true => (mapO ih args).map fun es => (.zip, es)
          | false => (ih iter).map fun e => (.it, [e]))))
    | false => (ih iter).map fun e => (.it, [e]))
  | e => guardO (noSet e) ((ih e).map fun e => (.it, [e]))
/-- isinstance(..) -/
def cIsi (ih : Expr → Option Ex) (S : CS) (args : List Expr) : Option Ex := match args with
  | [a, .Tuple cs _ _] => (match cs with
    | [] => none
    | _ => guardO (Nat.ble cs.length 30) (bind2 (ih a) (mapO (cTy S) cs) fun a ts => .isi a ts))
  | [a, c] => bind2 (ih a) (cTy S c) fun a t => .isi a [t]
  | _ => none
/-- keywords -/
def cKws (ih : Expr → Option Ex) (S : CS) : List Keyword → Option (List Nat × List Ex)
  | [] => some ([], [])
  | k :: r => match k with
    | ⟨some kn, e, _⟩ => (match S.fi kn, ih e, cKws ih S r with
      | some i, some x, some p => some (i :: p.1, x :: p.2)
      | _, _, _ => none)
    | _ => none
def oneX : List Expr → Option Expr
  | [a] => some a
  | _ => none
def cBlt (ih : Expr → Option Ex) (x : Str) (args : List Expr) : Option Ex := match bfs.lookup x, args with
  | some b, _ :: _ => (mapO ih args).map (.blt b)
  | _, _ => none
def cCall (ih : Expr → Option Ex) (S : CS) (x : Str) (args : List Expr) : Option Ex := match S.bi x with
  | true => (match decide (x = "isinstance") with
    | true => cIsi ih S args
    | false => (match decide (x = "len") with
      | true => (match oneX args with
        | some a => (ih a).map .lenI
        | none => none)
      | false => cBlt ih x args))
  | false => (match S.gl x with
    | some (.fn f) => (mapO ih args).map (.call f)
    | some (.cls c) => (mapO ih args).map (.mk c)
    | _ => none)
/-- the key of a static method -/
def smKey (x m : Str) : Str := x ++ (("." : Str) ++ m)
def smOf (S : CS) (o : Expr) (m : Str) : Option Nat := match o with
  | .Name x _ => (match S.gl x with
    | some (.cls c) => (match S.gt.lookup (smKey x m) with
      | some (.sm c' m' f) => guardO (okName x && (Nat.beq c c' && decide (m = m'))) (some f)
      | _ => none)
    | _ => none)
  | _ => none
def cMeth (ih : Expr → Option Ex) (S : CS) (o : Expr) (m : Str) (args : List Expr) : Option Ex := match smOf S o m with
  | some f => (mapO ih args).map (.call f)
  | none => match S.fi m with
  | some k => bind2 (ih o) (mapO ih args) fun o es => .met o k es
  | none => (match args with
    | [] => guardO (decide (m = "pop")) ((ih o).map fun o => .bme .pop o [])
    | [a] => (match decide (m = "join") with
      | true => bind2 (ih o) (ih a) .join
      | false => (match decide (m = "split") with
        | true => bind2 (ih o) (ih a) .split
        | false => guardO (decide (m = "append")) (bind2 (ih o) (mapO ih args) fun o es => .bme .append o es)))
    | _ => none)
def cLc (ihS ihT : CS → Expr → Option Ex) (S : CS) (elt tg iter : Expr) (ifs : List Expr) (sc : Scope) : Option Ex := match cIt S (ihS S) tg iter, cLT { S with sc := sc, lam := false } tg with
  | some (k, it), some t => guardO (blkC S.N S.sc sc (ownOf S.N sc) && t.slots.all fun i => ((ownOf S.N sc).map (·.2)).any (Nat.beq i)) (match ifs with
    | [] => (ihS { S with sc := sc, lam := false } elt).map fun e => .lc e t k it [] ((ownOf S.N sc).map (·.2))
    | [c] => bind2 (ihS { S with sc := sc, lam := false } elt) (ihT { S with sc := sc, lam := false } c) fun e c => .lc e t k it [c] ((ownOf S.N sc).map (·.2))
    | _ => none)
  | _, _ => none
def cDc (ihS ihT : CS → Expr → Option Ex) (S : CS) (kx vx tg iter : Expr) (ifs : List Expr) (sc : Scope) : Option Ex := match cIt S (ihS S) tg iter, cLT { S with sc := sc, lam := false } tg with
  | some (k, it), some t => guardO (blkC S.N S.sc sc (ownOf S.N sc) && t.slots.all fun i => ((ownOf S.N sc).map (·.2)).any (Nat.beq i)) (match ifs with
    | [] => bind2 (ihS { S with sc := sc, lam := false } kx) (ihS { S with sc := sc, lam := false } vx) fun a b => .dc a b t k it [] ((ownOf S.N sc).map (·.2))
    | [c] => (match ihT { S with sc := sc, lam := false } c with
      | some c => bind2 (ihS { S with sc := sc, lam := false } kx) (ihS { S with sc := sc, lam := false } vx) fun a b => .dc a b t k it [c] ((ownOf S.N sc).map (·.2))
      | none => none)
    | _ => none)
  | _, _ => none
/-- what may be locked -/
def hintOf : Ex → Ex
  | .dc _ _ _ _ [a] _ _ => a
  | _ => .cst .non
/-- a display's item -/
def cIte (ih : Expr → Option Ex) (e : Expr) : Option (Bool × Ex) := match e with
  | .Starred e _ => (ih e).map fun x => (true, x)
  | e => (ih e).map fun x => (false, x)
def cStep (ihS ihT : CS → Expr → Option Ex) (S : CS) (e : Expr) : Option Ex := match e with
  | .Name x _ => guardO (okName x) (match S.sl x with
    | some i => some (.var i)
    | none => (match S.gl x with
      | some (.cst v) => some (.cst v)
      | _ => none))
  | .Constant c _ _ => (cCst c).map .cst
  | .BinOp a o b _ => (match cBO o with
    | some o => bind2 (ihS S a) (ihS S b) (.bin o)
    | none => none)
  | .UnaryOp o a _ => (match o with
    | .USub => (ihS S a).map .neg
    | .Not => (ihS S a).map .not
    | _ => none)
  | .BoolOp o es _ => (match mapO (ihS S) es with
    | some xs => foldB o xs
    | none => none)
  | .IfExp c a b _ => (match ihT S c with
    | some c => bind2 (ihS S a) (ihS S b) (.ite c)
    | none => none)
  | .Compare a [.Is] [b] _ => guardO (isNC b) ((ihS S a).map .isN)
  | .Compare a [.IsNot] [b] _ => guardO (isNC b) ((ihS S a).map .notN)
  | .Compare a [o] [b] _ => guardO (noSet b) (match cCO o with
    | some o => bind2 (ihS S a) (ihS S b) (.cmp o)
    | none => none)
  | .Compare a [o, p] [b, c] _ => guardO (noSet b && noSet c) (match cCO o, cCO p with
    | some o, some p => (match ihS S a with
      | some a => bind2 (ihS S b) (ihS S c) (.chn o p a)
      | none => none)
    | _, _ => none)
  | .List es _ => (mapO (cIte (ihS S)) es).map .lst
  | .Tuple es _ _ => (mapO (cIte (ihS S)) es).map .tup
  | .Subscript a (.Slice none none (some (.UnaryOp .USub (.Constant (.int 1) _ _) _)) _) _ => (ihS S a).map .rev
  | .Subscript a (.Slice lo hi none _) _ => (match ihS S a with
    | some a => (match lo, hi with
      | none, none => some (.slc a none none)
      | some l, none => (ihS S l).map fun l => .slc a (some l) none
      | none, some u => (ihS S u).map fun u => .slc a none (some u)
      | some l, some u => bind2 (ihS S l) (ihS S u) fun l u => .slc a (some l) (some u))
    | none => none)
  | .Subscript a b _ => guardO (noSl b) (bind2 (ihS S a) (ihS S b) .idx)
  | .Attribute a f _ => guardO (supB a) (bind2 (ihS S a) (S.fi f) .fld)
  | .Call (.Name x _) [.Lambda ⟨[], [], none, [], [], none, []⟩ body sc _] [] _ => guardO (S.lam && LamX.lamSB S.sc sc) (match S.gl x with
    | some .why => (ihS { S with sc := sc, lam := false } body).map .why
    | _ => none)
  | .Call (.Name x _) args [] _ => guardO (noStarB args && okName x) (cCall (ihS S) S x args)
  | .Call (.Name x _) [] [⟨some kn, e, _⟩] _ => guardO (okName x) (match S.gl x with
    | some (.cls c) => bind2 (ihS S e) (S.fi kn) fun e k => .mkk c k e
    | _ => none)
  | .Call (.Name x _) (a :: as) (kw :: kws) _ => guardO (okName x && noStarB (a :: as)) (match S.gl x with
    | some (.cls c) => (match cKws (ihS S) S (kw :: kws) with
      | some p => (mapO (ihS S) (a :: as)).map fun es => .mkw c es p.1 p.2
      | none => none)
    | _ => none)
  | .Call (.Attribute o m apos) args (kw :: kws) pos => guardO (supB o && noStarB args && (apos.endLine == pos.line) && Nat.blt (args.length + (kw :: kws).length) 29) (match S.fi m, cKws (ihS S) S (kw :: kws) with
    | some k, some p => bind2 (ihS S o) (mapO (ihS S) args) fun o es => .metw o k es p.1 p.2
    | _, _ => none)
  | .Call (.Attribute o m apos) args [] pos => guardO (supB o && noStarB args && (apos.endLine == pos.line) && Nat.blt args.length 30) (cMeth (ihS S) S o m args)
  | .ListComp elt [⟨tg, iter, ifs, 0⟩] sc _ => cLc ihS ihT S elt tg iter ifs sc
  | .Dict [] [] _ => some (.dlt [])
  | .Dict [none, some k] [e, v] _ => (match ihS S e with
    | some a => bind2 (ihS S k) (ihS S v) (.dst a)
    | none => none)
  | .DictComp kx vx [⟨tg, iter, ifs, 0⟩] sc _ => (cDc ihS ihT S kx vx tg iter ifs sc).map fun z => .lck (hintOf z) z
  | _ => none
def isLog : Expr → Bool
  | .UnaryOp .Not _ _ => true
  | .BoolOp _ _ _ => true
  | .IfExp _ _ _ _ => true
  | _ => false
def cTst (ihS ihT : CS → Expr → Option Ex) (S : CS) (e : Expr) : Option Ex := match isLog e with
  | false => (cStep ihS ihT S e).map .val
  | true => (match e with
    | .UnaryOp .Not a _ => (ihT S a).map .not
    | .BoolOp o es _ => (match mapO (ihT S) es with
      | some xs => foldB o xs
      | none => none)
    | _ => none)
structure CP where
  e : CS → Expr → Option Ex
  t : CS → Expr → Option Ex
def cp (n : Nat) : CP := Nat.rec ⟨fun _ _ => none, fun _ _ => none⟩ (fun _ ih => ⟨cStep ih.e ih.t, cTst ih.e ih.t⟩) n
abbrev cEx (n : Nat) : CS → Expr → Option Ex := (cp n).e
abbrev cTs (n : Nat) : CS → Expr → Option Ex := (cp n).t
def cTg (ih : Expr → Option Ex) (S : CS) (e : Expr) : Option Tg := match e with
  | .Name x _ => (S.ws x).map .var
  | .Attribute o f _ => guardO (supB o) (bind2 (ih o) (S.fi f) .fld)
  | .Subscript o i _ => guardO (noSl i) (bind2 (ih o) (ih i) .sub)
  | _ => none
/-- how a pair's stores are laid: none: not told; some none: from the left -/
def isStarX : Expr → Bool
  | .Starred _ _ => true
  | _ => false
def lnN (sc : Scope) (line : Nat) (e : Expr) : Option Str := match e with
  | .Name id pos => if sc.names.lookup id == some .local && pos.line == line then some id else none
  | _ => none
def hdLine (ts : List Expr) : Nat := (ts.head?.map fun e => e.pos.line).getD 0
def swQ (sc : Scope) (ts vs : List Expr) : Option (Option (List Str)) :=
  if (!(ts.length == 2 || ts.length == 3) || vs.length != ts.length || (if sc.kind.isAnnotationScope then ScopeKind.function else sc.kind) != .function) = true then some none
  else if vs.any isStarX = true then some none
  else if ((ts.filterMap (lnN sc (hdLine ts))).length != ts.length || (ts.filterMap (lnN sc (hdLine ts))).eraseDups.length != (ts.filterMap (lnN sc (hdLine ts))).length) = true then some none
  else if vs.all (foldedForSure 8) = true then some none
  else if vs.all (constantsAlone 8) = true then none
  else some (some (ts.filterMap (lnN sc (hdLine ts))))
def cPar (ihT : Expr → Option Tg) (ihE : Expr → Option Ex) (S : CS) (ts es : List Expr) : Option St := match swQ S.sc ts es with
  | none => none
  | some none => guardO (ts.all plainX && es.all plainX) (bind2 (mapO ihT ts) (mapO ihE es) .par)
  | some (some _) => (match ts, es with
    | [.Name x _, .Name y _], [a, b] => guardO (plainX a && plainX b && !(decide (x = y))) (match S.ws x, S.ws y with
      | some i, some j => bind2 (ihE a) (ihE b) fun a b => .par [.var i, .var j] [a, b]
      | _, _ => none)
    | [.Name x _, .Name y _, .Name z _], [a, b, c] => guardO (plainX a && plainX b && plainX c && !(decide (x = y)) && !(decide (x = z)) && !(decide (y = z))) (match S.ws x, S.ws y, S.ws z with
      | some i, some j, some k => (match ihE a with
        | some a => bind2 (ihE b) (ihE c) fun b c => .par [.var i, .var j, .var k] [a, b, c]
        | none => none)
      | _, _, _ => none)
    | _, _ => none)
def notTup : Expr → Bool
  | .Tuple _ _ _ => false
  | _ => true
/-- a dict comprehension is not stored in a name -/
def okDc (tg e : Expr) : Bool := match e with
  | .DictComp _ _ _ _ _ => (match tg with
    | .Name _ _ => false
    | _ => true)
  | _ => true
def cSt (ih : CS → List Stmt → Option (List St)) (n : Nat) (S : CS) (st : Stmt) : Option St := match st with
  | .Pass _ => some .pass
  | .Break _ => some .brk
  | .Continue _ => some .cont
  | .Return none _ => some (.ret (.cst .non))
  | .Return (some e) _ => (cEx n S e).map .ret
  | .Expr (.Constant (.str _) _ _) _ => some .pass
  | .Expr e _ => guardO (noLC e) ((cEx n S e).map .exp)
  | .Assign [.Tuple ts _ _] (.Tuple es _ _) _ => cPar (cTg (cEx n S) S) (cEx n S) S ts es
  | .Assign [.Tuple ts _ _] e _ => guardO (noLC e && ts.all plainX && notTup e) (bind2 (mapO (cTg (cEx n S) S) ts) (cEx n S e) .asgs)
  | .Assign [.Attribute o f _] e _ => guardO (supB o) (match S.fi f with
    | some k => bind2 (cEx n S o) (cEx n S e) fun a x => .asgp a k x
    | none => none)
  | .Assign [tg] e _ => guardO (okDc tg e) (bind2 (cTg (cEx n S) S tg) (cEx n S e) .asg)
  | .AugAssign (.Name x _) o e _ => (match cBO o with
    | some o => bind2 (S.ws x) (cEx n S e) fun i e => .aug i o e
    | none => none)
  | .If c a b _ => (match cTs n S c with
    | some c => bind2 (ih S a) (ih S b) (.iff c)
    | none => none)
  | .While c b [] _ => bind2 (cTs n S c) (ih S b) .whl
  | .For tg iter b [] _ => (match cIt S (cEx n S) tg iter, cLT S tg with
    | some (k, it), some t => (ih S b).map fun b => .for t k it b
    | _, _ => none)
  | .Raise (some (.Call (.Name x _) args [] _)) none _ => guardO (noStarB args && okName x) (match S.gl x with
    | some (.cls c) => (mapO (cEx n S) args).map (.rais c)
    | _ => none)
  | _ => none
def cSs (c m : Nat) : CS → List Stmt → Option (List St) := Nat.rec (fun _ _ => none) (fun _ ih S b => mapO (cSt ih c S) b) m
end MP
set_option linter.all false
set_option maxRecDepth 100000
/-! What the compile functions say. -/
namespace MP
open PySem L2
theorem guardO_some {α : Type} {b : Bool} {x : Option α} {y : α} (h : guardO b x = some y) : b = true ∧ x = some y := by
  cases b with
  | true => exact ⟨rfl, h⟩
  | false => cases h
theorem bind2_some {α β γ : Type} {x : Option α} {y : Option β} {f : α → β → γ} {z : γ} (h : bind2 x y f = some z) : ∃ a b, x = some a ∧ y = some b ∧ z = f a b := by
  cases x with
  | none => cases h
  | some a =>
    cases y with
    | none => cases h
    | some b =>
      cases h
      exact ⟨a, b, rfl, rfl, rfl⟩
theorem map_some {α β : Type} {x : Option α} {f : α → β} {z : β} (h : x.map f = some z) : ∃ a, x = some a ∧ z = f a := by
  cases x with
  | none => cases h
  | some a =>
    cases h
    exact ⟨a, rfl, rfl⟩
theorem ixS_ok {x : Str} : ∀ {l : List Str} {i n : Nat}, ixS x l i = some n → ∃ k, n = i + k ∧ l[k]? = some x
  | [], _, _, h => by cases h
  | y :: r, i, n, h => by
    unfold ixS at h
    by_cases c : y = x
    · rw [decide_eq_true c] at h
      cases h
      exact ⟨0, rfl, by rw [c]; rfl⟩
    · rw [decide_eq_false c] at h
      obtain ⟨k, e, z⟩ := ixS_ok (l := r) h
      exact ⟨k + 1, by omega, z⟩
theorem okName_ok {x : Str} (h : okName x = true) : (x == ("__debug__" : Str)) = false ∧ (x == ("__classdict__" : Str)) = false := by
  unfold okName at h
  rw [Bool.and_eq_true] at h
  exact ⟨by simpa using h.1, by simpa using h.2⟩
theorem mapO_cons {α β : Type} {f : α → Option β} {x : α} {xs : List α} {ys : List β} (e : mapO f (x :: xs) = some ys) : ∃ y zs, f x = some y ∧ mapO f xs = some zs ∧ ys = y :: zs := by
  have e : (match f x with
    | none => none
    | some y => match mapO f xs with
      | none => none
      | some ys => some (y :: ys)) = some ys := e
  cases q : f x with
  | none =>
    rw [q] at e
    cases e
  | some y =>
    rw [q] at e
    cases q2 : mapO f xs with
    | none =>
      rw [q2] at e
      cases e
    | some zs =>
      rw [q2] at e
      cases e
      exact ⟨y, zs, rfl, rfl, rfl⟩
end MP
set_option linter.all false
set_option maxRecDepth 100000
set_option maxHeartbeats 4000000
/-! Own exceptions over a built-in one: their fields stored, super().__init__(a text). -/
namespace MP
open PySem L2 PyProof.Rows

/-- a class of the text over the built-in exception B -/
structure XcC (K : PySem.W.Frag) (C : Addr) (B newId initId : String) (bmB : List Value) : Prop where
  fb : ExcBaseFacts B newId initId bmB
  kf : PySem.W.KxsFacts B initId
  sf : StoreFacts B bmB "object.__setattr__" "object"
  ini : PySem.W.excInitIn K C bmB newId = true
  ovr : PySem.W.excOver K C bmB = true
  hd : PySem.W.hasDictIn K C = true
  sa : PySem.W.findIn K (.ref C) "__setattr__" = some (some (.builtin "object.__setattr__"))
  exC : PySem.W.subIn K (.ref C) (.type "BaseException") = some true
  suB : PySem.W.subIn K (.ref C) (.type B) = some true
  suC : PySem.W.subIn K (.ref C) (.ref C) = some true
  tyC : PySem.W.typeIn K (.ref C) = some (.type "type")
  kC : PySem.W.keepIn K (.ref C) = true
  opq : PySem.W.nsIn K cStatics "thirdparty.any" = some none
  sup : PySem.W.ks_superIn K C C "__init__" = some (some (.builtin initId))

section
open Builtin Builtin.ObjectAttr
variable {prog : Program} {w : World} {A : Around} {R : Result → Shared → Prop} {hp : Heap} {g : Array GenState} {d : Drawn} {t : Nat} {os : OsState} {B newId initId : String} {bmB : List Value}
theorem taker_none {K : PySem.W.Frag} {C : Addr} {f : Str} (h : PySem.W.findIn K (.ref C) f = some none) : PySem.W.takerIn K C f = some none := by
  unfold PySem.W.takerIn
  rw [h]
  rfl
theorem osa_new {K : PySem.W.Frag} {name : Str} {tk : Tok} {v : Value} {x C : Addr} {fv : Array Value} (T : XcC K C B newId initId bmB)
    (X : K.In hp) (hx : hp.get? x = some { cls := .ref C, data := .fields fv }) (ha : PySem.W.findIn K (.ref C) name = some none)
    (hq : ∀ h' tk' dx, (∀ b o, b ≠ x → hp.get? b = some o → h'.get? b = some o) → hp.objs.size ≤ dx → dx ≠ x → h'.get? x = some { cls := .ref C, dict := some dx, data := .fields fv } →
      h'.Ns1 dx (fun y => if y = name then some v else none) → R (.ok (.ret .none)) ⟨h', g, d, tk', os⟩) :
    codeAny (model prog w) A (.call (.builtin "object.__setattr__") ⟨[.ref x, .str name tk, v], []⟩) R ⟨hp, g, d, t, os⟩ := by
  have I : PySem.W.InstAt hp x { cls := .ref C, data := .fields fv } C none := ⟨hx, rfl, rfl, trivial⟩
  have hxs : x ≠ hp.objs.size := Nat.ne_of_lt (Heap.lt_size hx)
  refine PySem.W.osa_openX T.sf X I T.ovr (taker_none ha) fun b => ?_
  obtain ⟨cd, hcd, hh⟩ := PySem.W.any_some T.hd
  have hcls : PySem.W.Looks (model prog w) hp (classData C) cd := PySem.W.looks_clsIn X hcd
  obtain ⟨nm, bs, mro, ns, qn, hd, sn, sb, ab, col, del⟩ := cd
  dsimp only at hh
  subst hh
  show wpAny _ _ (storeInOwnDict (.ref x) (.ref C) (.str name tk) name v b) _ _ _
  unfold storeInOwnDict ownDictForStores
  repeat (first | with_reducible refine HandSPX.store_in_new ?_ ?_ | with_reducible refine wpAny_loadPart_at hx ?_ | with_reducible refine hcls.at ?_ | wp_step)
  · exact ⟨_, #[], _, (Heap.get?_update_ne _ _ _ _ hxs.symm).trans (Heap.get?_push_at rfl rfl), rfl, fun e he => absurd he (by simp), fun _ => rfl⟩
  · intro h' tk' hn' hs
    have hx₁ : (hp.push { cls := .type "dict", data := .dict #[] }).get? x = some { cls := .ref C, data := .fields fv } := Heap.get?_push_of_some _ hx
    refine hq h' tk' hp.objs.size (fun b o hb ho => ?_) (Nat.le_refl _) hxs.symm ?_ hn'
    · exact (hs.2 b (Nat.ne_of_lt (Heap.lt_size ho))).trans ((Heap.get?_update_ne _ _ _ _ hb).trans (Heap.get?_push_of_some _ ho))
    · exact (hs.2 x hxs).trans (Heap.get?_update_self _ hx₁ rfl)
theorem osa_old {K : PySem.W.Frag} {name : Str} {tk : Tok} {v : Value} {x C dx : Addr} {fv : Array Value} {m0 : Str → Option Value} {nl : List Str} (T : XcC K C B newId initId bmB)
    (X : K.In hp) (hx : hp.get? x = some { cls := .ref C, dict := some dx, data := .fields fv }) (hns : hp.Ns1 dx m0) (hw : Within m0 nl) (hz : nl.length ≤ 1000) (ha : PySem.W.findIn K (.ref C) name = some none)
    (hq : ∀ h' tk', (∀ b o, b ≠ dx → hp.get? b = some o → h'.get? b = some o) → h'.Ns1 dx (fun y => if y = name then some v else m0 y) → R (.ok (.ret .none)) ⟨h', g, d, tk', os⟩) :
    codeAny (model prog w) A (.call (.builtin "object.__setattr__") ⟨[.ref x, .str name tk, v], []⟩) R ⟨hp, g, d, t, os⟩ := by
  obtain ⟨oD, esD, epD, hoD, hdD, _⟩ := hns.count hw
  have I : PySem.W.InstAt hp x { cls := .ref C, dict := some dx, data := .fields fv } C (some oD) := ⟨hx, rfl, rfl, hoD⟩
  refine PySem.W.osa_openX T.sf X I T.ovr (taker_none ha) fun b => ?_
  obtain ⟨cd, hcd, hh⟩ := PySem.W.any_some T.hd
  have hcls : PySem.W.Looks (model prog w) hp (classData C) cd := PySem.W.looks_clsIn X hcd
  obtain ⟨nm, bs, mro, ns, qn, hd, sn, sb, ab, col, del⟩ := cd
  dsimp only at hh
  subst hh
  show wpAny _ _ (storeInOwnDict (.ref x) (.ref C) (.str name tk) name v b) _ _ _
  unfold storeInOwnDict ownDictForStores
  repeat (first | with_reducible refine PySem.OEX.store_in_old hns hw hz ?_ | with_reducible refine wpAny_loadPart_at hx ?_ | with_reducible refine hcls.at ?_ | wp_step)
  intro h' tk' hn' hs
  exact hq h' tk' (fun b o hb ho => (hs.2 b hb).trans ho) hn'
end

section
variable {X : Cx} {pins : List (Addr × Obj)} {σ : L2.St} {H : Hp} {s : Shared} {a C dx : Addr} {f : Str} {y : V} {u : Value} {fs : List (Str × V)} {Q : Unit → Shared → Prop} {E : Value → Shared → Prop} {A : Around} {B newId initId : String} {bmB : List Value}
/-- self.f = y, the first one -/
theorem xst_new (T : XcC X.K C B newId initId bmB) (I : Inv X pins σ H s) (e : H a = some (exo a C none)) (hno : PySem.W.findIn X.K (.ref C) f = some none) (ry : RelV y u)
    (h : ∀ dx s', H dx = none → dx ≠ a → Inv X pins σ (upd (upd H dx (exd dx [(f, y)])) a (exo a C (some dx))) s' → Q () s') : wpAny (model X.prog X.w) A (setAttr (.ref a) f u) Q E s := by
  obtain ⟨t1, ho⟩ := exo_at I.hok e
  obtain ⟨hp, g, d, t, os⟩ := s
  refine PySem.W.set_plain I.kIn (ox := { cls := .ref C, dict := none, data := .fields #[.ref t1, .none, .none, .none, .bool false, .none] }) (od := none) ⟨ho, rfl, rfl, trivial⟩ T.sa ?_
  refine osa_new T I.kIn ho hno (fun h' tk' dx k dn dne hx hn => ?_)
  have hnd : H dx = none := I.hok.fresh dn
  have nd : ∀ {b : Addr} {o : Obj}, hp.get? b = some o → b ≠ dx := fun {b o} q => Nat.ne_of_lt (Nat.lt_of_lt_of_le (Heap.lt_size q) dn)
  have na : ∀ {b : Addr}, H b = none → b ≠ a := fun {b} n z => by
    rw [z, e] at n
    cases n
  have Un1 : Un X.fs [] H (upd (upd H dx (exd dx [(f, y)])) a (exo a C (some dx))) hp h' := {
    keep := fun b o q n _ _ => k b o (na n) q
    slot := fun b o q n _ _ => ⟨o.slots, k b o (na n) q⟩
    free := fun b o q n _ => by rw [upd_ne (na n), upd_ne (nd q)]; exact n
    there := fun b o q _ => by
      by_cases hb : b = a
      · exact ⟨_, by rw [hb]; exact hx⟩
      · exact ⟨o, k b o hb q⟩
    tups := fun b xs q => by rw [upd_ne (at_ne e q exo_tup), upd_ne (ne_of_none q hnd)]; exact q
    frzs := fun b o v q => by rw [upd_ne (at_ne e q exo_frz), upd_ne (ne_of_none q hnd)]; exact q
    tbls := fun b ps q => ⟨#[], by rw [upd_ne (at_ne e q exo_tbl), upd_ne (ne_of_none q hnd), q]; simp⟩ }
  refine h dx _ hnd dne (I.un (t' := tk') Un1 fun b o q => ?_)
  by_cases hb : b = a
  · subst hb
    rw [upd_same] at q
    cases q
    exact exo_ok hx
  · rw [upd_ne hb] at q
    by_cases hd : b = dx
    · subst hd
      rw [upd_same] at q
      cases q
      exact exd_ok hn (relO_put (fs := []) ry fun g => True.intro)
    · rw [upd_ne hd] at q
      exact (I.hok b o q).stay (fun c v hc z => k c v (by
          rcases hc with hc | hc
          · rw [hc]
            exact hb
          · exact at_ne e hc exo_own) z)
        (fun c hc => by rw [upd_ne (at_ne e hc exo_own), upd_ne (ne_of_none hc hnd)]; exact hc) (fun c xs hc => by rw [upd_ne (at_ne e hc exo_tup), upd_ne (ne_of_none hc hnd)]; exact hc)
/-- self.f = y, a further one -/
theorem xst_old (T : XcC X.K C B newId initId bmB) (I : Inv X pins σ H s) (e : H a = some (exo a C (some dx))) (ed : H dx = some (exd dx fs)) (hl : fs.length ≤ 900) (hno : PySem.W.findIn X.K (.ref C) f = some none) (ry : RelV y u)
    (h : ∀ s', Inv X pins σ (upd H dx (exd dx ((f, y) :: fs))) s' → Q () s') : wpAny (model X.prog X.w) A (setAttr (.ref a) f u) Q E s := by
  obtain ⟨t1, ho⟩ := exo_at I.hok e
  obtain ⟨mA, hns, rel⟩ := exd_at I.hok ed
  have hw := within_of rel
  obtain ⟨hp, g, d, t, os⟩ := s
  obtain ⟨oD, _, _, hoD, _, _⟩ := hns.count hw
  refine PySem.W.set_plain I.kIn (ox := { cls := .ref C, dict := some dx, data := .fields #[.ref t1, .none, .none, .none, .bool false, .none] }) (od := some oD) ⟨ho, rfl, rfl, hoD⟩ T.sa ?_
  refine osa_old T I.kIn ho hns hw (by rw [List.length_map]; omega) hno (fun h' tk' k hn => ?_)
  have hd : ∃ o, h'.get? dx = some o := by
    obtain ⟨o, _, _, e', _⟩ := hn
    exact ⟨o, e'⟩
  exact h _ (I.write (t' := tk') (x := dx) (e := dx) (o := exd dx ((f, y) :: fs)) (by rw [ed]; exact True.intro) (.inl rfl) k hd (exd_ok hn (relO_put ry rel)))
/-- self.f = e -/
def tXst (K : PySem.W.Frag) (C : Addr) (f : Str) (to te : TE) : TS := fun D σ H => te σ H fun y H1 => to σ H1 fun x H2 => ∃ a : Addr, x = .ref a ∧ PySem.W.findIn K (.ref C) f = some none ∧
  ((H2 a = some (exo a C none) ∧ ∀ dx, H2 dx = none → dx ≠ a → D.nx σ (upd (upd H2 dx (exd dx [(f, y)])) a (exo a C (some dx)))) ∨
    ∃ (dx : Addr) (fs : List (Str × V)), H2 a = some (exo a C (some dx)) ∧ H2 dx = some (exd dx fs) ∧ fs.length ≤ 900 ∧ D.nx σ (upd H2 dx (exd dx ((f, y) :: fs))))
theorem ps_xst {o e : Expr} {to te : TE} {p' pos : Pos} (T : XcC X.K C B newId initId bmB) (ho : PE X o to) (he : PE X e te) (hs : swapsWith e (some (.Attribute o f p')) pos.line X.env = pure false) :
    PS X (.Assign [.Attribute o f p'] e pos) (tXst X.K C f to te) := by
  refine ⟨fun pins s σ H D I h => ?_⟩
  refine plainObj_wpAny_Assign_Attribute (thn (he.run pins s σ H _ I h) fun v s1 ⟨y, H1, I1, r1, q1⟩ => thn (ho.run pins s1 σ H1 _ I1 q1) fun u s2 ⟨x, H2, I2, r2, a, ex, hno, q⟩ => ?_) hs
  subst ex
  obtain rfl : u = Value.ref a := r2
  rcases q with ⟨ea, q⟩ | ⟨dx, fs, ea, ed, hl, q⟩
  · exact xst_new T I2 ea hno r1 fun dx s' n ne J => ⟨σ, _, J, q dx n ne⟩
  · exact xst_old T I2 ea ed hl hno r1 fun s' J => ⟨σ, _, J, q⟩
end
end MP
set_option linter.all false
set_option maxRecDepth 100000
set_option maxHeartbeats 4000000
/-! super().__init__(a text) in an own exception's __init__. -/
namespace MP
open PySem L2 PyProof.Rows
section
variable {X : Cx} {pins : List (Addr × Obj)} {σ : L2.St} {H : Hp} {s : Shared} {a C : Addr} {E : Value → Shared → Prop} {A : Around} {B newId initId : String} {bmB : List Value}
/-- the bound __init__ of the built-in base, called -/
theorem call_mw {u : Addr} {rest : List Value} {Q : Value → Shared → Prop} (T : XcC X.K C B newId initId bmB) (I : Inv X pins σ H s) (e : H a = some (exo a C none)) (hu : s.heap.get? u = some (PySem.W.kxs_mw initId a)) (hrest : rest.length ≤ sizeLine)
    (h : ∀ s', Inv X pins σ H s' → Q .none s') : wpAny (model X.prog X.w) A (call (.ref u) rest) Q E s := by
  obtain ⟨t1, ho⟩ := exo_at I.hok e
  obtain ⟨nm, N, qn, bs, bm, hdct, sn, sub, ab, col, dd, k0, k1, k2, k3, k5, hC, hT⟩ := PySem.W.excInit_of I.kIn T.ini
  obtain ⟨hp, g, d, t, os⟩ := s
  have FB := T.fb
  refine wpAny_call (codeAny_of_tree ?_)
  show wpAny _ A.in1 (callAny (.ref u) ⟨rest, []⟩) _ _ _
  simp only [callAny]
  refine wpAny_bind (wpAny_load hu ?_)
  simp only [PySem.W.kxs_mw, show (Value.type "method-wrapper" == Value.type "method" || Value.type "method-wrapper" == Value.type "builtin_function_or_method" || Value.type "method-wrapper" == Value.type "method-wrapper") = true by decide, if_true]
  refine PySem.W.KFB.if_so (by decide) ?_
  refine wpAny_bind (PySem.ESX.check_bound FB hC ho rfl ?_)
  refine wpAny_bind (wpAny_pure (wpAny_pure ?_))
  refine ⟨plainId_quiet FB.init.plain _, codeAny_builtin FB.initEntry ?_⟩
  rw [Around.under_plainId FB.init.plain _]
  wp_walk
  have k : ∀ b o, b ≠ a → hp.get? b = some o → ((hp.push { cls := .type "tuple", data := .seq rest.toArray }).update a (Obj.mapFields (·.setIfInBounds 0 (.ref hp.objs.size)))).get? b = some o := fun b o hb hb2 => by
    rw [Heap.get?_update_other _ _ (Ne.symm hb)]
    exact Heap.get?_push_of_some _ hb2
  have J := I.write (t' := t) (x := a) (e := a) (o := exo a C none) (h' := (hp.push { cls := .type "tuple", data := .seq rest.toArray }).update a (Obj.mapFields (·.setIfInBounds 0 (.ref hp.objs.size)))) (by rw [e]; exact True.intro) (.inl rfl) k
    ⟨_, Heap.get?_update_self _ (Heap.get?_push_of_some _ ho) rfl⟩ (exo_ok (t1 := hp.objs.size) (Heap.get?_update_self _ (Heap.get?_push_of_some _ ho) rfl))
  have eu : upd H a (exo a C none) = H := by
    funext b
    by_cases hb : b = a
    · rw [hb, upd_same, e]
    · rw [upd_ne hb]
  rw [eu] at J
  exact h _ J

theorem ne_cls (T : XcC X.K C B newId initId bmB) (I : Inv X pins σ H s) {o : HO} (e : H a = some o) : a ≠ C := fun z => by
  obtain ⟨nm, N, qn, bs, bm, hdct, sn, sub, ab, col, dd, k0, k1, k2, k3, k5, hC, hT⟩ := PySem.W.excInit_of I.ok.mod.kin T.ini
  have q := (I.bs _ _ hC).2
  rw [← z, e] at q
  cases q
/-- super().__init__(e), e a text -/
theorem sup_at {body : List Stmt} {p0 p1 p2 pos : Pos} {e : Expr} {te : TE} {sn : Str} {cc fa co : Addr} {of oco : Obj} {fd : FuncData} {ar : Arg} {vs' : Array Value} {file : Str} {tf : Tok} {Q : Value → Shared → Prop}
    (T : XcC X.K C B newId initId bmB) (I : Inv X pins σ H s) (ha : H a = some (exo a C none)) (hN : X.N[0]? = some sn) (hσ : σ[0]? = some (some (.ref a))) (hv : Vis X.env.scope sn)
    (hks : X.env.kindOf "super" = some .globalImplicit) (hm : X.mg "super" = none) (hkc : X.env.kindOf "__class__" = some .free) (hcl : X.env.cells.lookup ("__class__" : Str) = some cc) (hcv : s.heap.IsCell cc (some (.ref C)))
    (hfu : X.env.func = some fa) (hf : s.heap.get? fa = some of) (hfd : of.data = .func fd) (hp : (fd.params.posonlyargs ++ fd.params.args).head? = some ar) (har : ar.arg = sn)
    (hco : X.env.code = .ref co) (hcc : s.heap.get? co = some oco) (hoc : oco.data = .fields vs') (hvs : vs'[2]? = some (.str file tf)) (hfile : ((X.prog.main.file : Str) == file) = true) (htop : (X.prog.main.scope.names.lookup ("super" : Str)).isSome = false)
    (he : PE X e te) (hte : te σ H fun v H1 => H1 = H ∧ [v].length = 1) (h : ∀ s', Inv X pins σ H s' → Q .none s') (hsn : (sn == ("__classdict__" : Str)) = false)
    {pl : Sem Bool} (hc : eval (.Call (.Attribute (.Call (.Name "super" p0) [] [] p1) "__init__" p2) [e] [] pos) X.env = (do
      let ov ← attributeBase (.Call (.Name "super" p0) [] [] p1) "__init__" X.env (eval (.Call (.Name "super" p0) [] [] p1) X.env)
      standAt p2.atName
      let (f, first) ← holding [ov] (getMethod ov "__init__" pl)
      callWith pos f first (backTo pos (starEach [e] X.env)) []))
    (hst : starEach [e] X.env = (false, eval e X.env) :: starEach [] X.env) :
    PySem.wpAt (model X.prog X.w) X.A (.func body X.env) (eval (.Call (.Attribute (.Call (.Name "super" p0) [] [] p1) "__init__" p2) [e] [] pos) X.env) Q X.xe s := by
  obtain ⟨nm, N, qn, bs, bm, hdct, sn', sub, ab, col, dd, k0, k1, k2, k3, k5, hC, hT⟩ := PySem.W.excInit_of I.kIn T.ini
  obtain ⟨t1, ho⟩ := exo_at I.hok ha
  refine ks_wpAt_MethodCall ?_ hc
  refine ks_wpAt_super_base hks hkc (by decide +kernel) hfu hf hfd hp hco hcc hoc hvs hfile htop ?_
  have ls : ∀ {Q' : Value → Shared → Prop}, Q' (.type "super") s → wpAny (model X.prog X.w) X.A (loadName X.env "super") Q' X.xe s := fun {Q'} q => by
    unfold loadName
    simp only [Env.blockKind, I.ok.kind, hks, ScopeKind.isAnnotationScope, Bool.false_and, Bool.false_eq_true, if_false]
    obtain ⟨mb, h1, h2⟩ := I.mod.blt
    exact Calls.loadGlobal_builtin (by rw [I.ok.glob]; exact I.mod.glob.keeps I.bk) hm (by rw [I.ok.blt]; exact h1.keeps I.bk) ((h2 _ (by decide)).trans PyProof.Rows.Boot.«super») q
  refine ls ⟨rfl, wpAny_loadName_free I.ok.kind hkc hcl hcv ?_⟩
  rw [har]
  have lself : ∀ {Q' : Value → Shared → Prop}, Q' (.ref a) s → wpAny (model X.prog X.w) X.A (loadName X.env sn) Q' X.xe s := fun {Q'} q => by
    obtain ⟨m, hn, hl⟩ := I.loc
    obtain ⟨u, r, l⟩ := hl 0 sn (.ref a) hN hσ hv
    obtain rfl : u = Value.ref a := r
    rcases l with ⟨hk, hm⟩ | ⟨hk, c, hc, hcell⟩
    · exact wpAny_loadName_local I.ok.kind hk hn hm q
    · rcases hk with hk | hk
      · exact wpAny_loadName_cell I.ok.kind hk hc hcell q
      · exact wpAny_loadName_free I.ok.kind hk hc hcell q hsn
  refine lself ?_
  have nac := ne_cls T I ha
  have Tsup := T.sup
  obtain ⟨hp', g, d, t, os⟩ := s
  refine ks_wpAny_isType_cls hC rfl ⟨rfl, ?_⟩
  refine ks_wpAny_call_super hC rfl ho rfl (by intro c z; cases z) (PySem.W.looks_subIn I.kIn T.suC) fun h1 hso k1 => ?_
  have I1 : Inv X pins σ H ⟨h1, g, d, t, os⟩ := I.kept (t' := t) k1
  have KX := I1.kIn
  obtain ⟨t2, ho1⟩ := exo_at I1.hok ha
  have Ia : PySem.W.InstAt h1 a { cls := .ref C, dict := none, data := .fields #[.ref t2, .none, .none, .none, .bool false, .none] } C none := ⟨ho1, rfl, rfl, trivial⟩
  have hI : PySem.W.Looks (model X.prog X.w) h1 (isInstance (.ref a) (.type B)) true := Ia.type.andThen (PySem.W.looks_subIn KX T.suB)
  cases hcd : PySem.W.clsIn X.K C with
  | none =>
    unfold PySem.W.ks_superIn at Tsup
    rw [hcd] at Tsup
    cases Tsup
  | some cd =>
    unfold PySem.W.ks_superIn at Tsup
    rw [hcd] at Tsup
    refine PySem.W.kxs_getMethod T.kf hso (PySem.W.looks_opaque KX T.opq) (l₀ := cd.mro) ((PySem.W.looks_clsIn KX hcd).andThen .now) rfl KX Tsup hI nac (by decide +kernel) ?_
    have kp : ∀ b o, h1.get? b = some o → (h1.push (PySem.W.kxs_mw initId a)).get? b = some o := fun b o q => Heap.get?_push_of_some _ q
    have hu : (h1.push (PySem.W.kxs_mw initId a)).get? h1.objs.size = some (PySem.W.kxs_mw initId a) := Heap.get?_push_at rfl rfl
    have I2 : Inv X pins σ H ⟨h1.push (PySem.W.kxs_mw initId a), g, d, t + 1, os⟩ := I1.kept (t' := t + 1) kp
    have J : Inv X ((h1.objs.size, PySem.W.kxs_mw initId a) :: pins) σ H ⟨h1.push (PySem.W.kxs_mw initId a), g, d, t + 1, os⟩ := I2.pins_of fun p hp => by
      rcases List.mem_cons.mp hp with q | q
      · subst q
        exact ⟨hu, I1.hok.fresh (Nat.le_refl _), Nat.ne_of_gt I1.lt, I1.nofs (Nat.le_refl _), fun v z => by cases z⟩
      · exact I2.pin p (List.mem_append_right _ q)
    show wpAny _ _ (callWith pos (.ref h1.objs.size) [] (backTo pos (starEach [e] X.env)) []) _ _ _
    have hpa : PA X [e] (tCons te tNil) := pa_cons he pa_nil hst
    refine PySem.W.kxs_callWith (i := initId) (x := a) (by rw [hst]; rfl) ?_
    have h0 := wpAny_mono (Q' := fun us s' => PySem.W.KxsAt initId h1.objs.size a s'.heap ∧ wpAny (model X.prog X.w) X.A (call (.ref h1.objs.size) ([] ++ us)) Q X.xe s') (hpa.run pos _ _ σ H (fun vs H1 => H1 = H ∧ vs.length = 1) J hte) (fun us s' hs => ?_) fun _ _ z => z
    · rw [hst] at h0 ⊢
      exact PySem.Calls.evalArgs_plain h0
    obtain ⟨vs, H1, J1, r1, q1, q2⟩ := hs
    subst q1
    have pu := J1.pin (h1.objs.size, PySem.W.kxs_mw initId a) (List.mem_append_right _ (List.mem_cons_self ..))
    refine ⟨pu.1, ?_⟩
    have J2 : Inv X pins σ H1 s' := J1.pins_of fun p hp => J1.pin p (List.mem_append_right _ (List.mem_cons_of_mem _ hp))
    exact call_mw T J2 ha pu.1 (by rw [List.nil_append, ← Paired.length r1, q2, sizeLine_eq]; omega) h
end
end MP
set_option linter.all false
set_option maxRecDepth 100000
set_option maxHeartbeats 4000000
/-! {list} in an f-string: some bounded text. -/
namespace PySem
open PySem.Spec PyProof.Rows Sem
section
variable {prog : Program} {w : World} {A : Around} {E : Value → Shared → Prop} {s : Shared}
theorem fmtl_head {M : Model} {Q : Fin → Shared → Prop} {a : Addr} {o : Obj} {x : Value} {l : List Value} {n} {b : Nat}
    (hget : s.heap.get? a = some o) (hd : o.data = .seq (x :: l).toArray n) (h1 : Q (.done (.ret (.str "[...]" s.toks))) { s with toks := s.toks + 1 })
    (h : wpAny M A (do again (.builtin "list.__repr__.loop" ⟨[.ref a, rawInt 0, ← newList [], rawInt b], []⟩)) Q E s) : wpAny M A (Builtin.listReprAt b ⟨[.ref a], []⟩) Q E s := by
  intro Γ p hΓ
  have h2 := h Γ p hΓ
  unfold Builtin.listReprAt
  simp [slotArgs, Builtin.List.listItems, seqItems?, wp_load_of (h := hget), hd, stack]
  show wp M Γ (if (Γ.below.any _) = true then _ else _) _ _ p s
  split
  · simp [rule, retStr, ret]
    exact h1
  · exact h2
theorem fmtl_get {its : List Value} {ts : List Str} (h : ReprAll prog w its ts) : ∀ (i : Nat) (y : Value), its.toArray[i]? = some y → ∃ t, ts[i]? = some t ∧ ReprIs prog w y t := by
  induction h with
  | nil => intro i y e; simp at e
  | cons h1 h2 ih =>
    intro i y e
    cases i with
    | zero =>
      simp at e
      exact ⟨_, rfl, e ▸ h1⟩
    | succ j =>
      obtain ⟨t, k1, k2⟩ := ih j y (by simpa using e)
      exact ⟨t, by simpa using k1, k2⟩
theorem fmtl_way : ("[...]" : Str).length ≤ 5 := by decide +kernel
theorem fmtl_nil : ("[]" : Str).length ≤ 5 := by decide +kernel
theorem fmtl_repr {a : Addr} {o : Obj} {its : List Value} {n : Nat} {ts : List Str} {Q : Value → Shared → Prop} (ha : s.heap.get? a = some o) (hc : o.cls = .type "list") (hd : o.data = .seq its.toArray n) (hT : ReprAll prog w its ts) (hsz : (listText ts).length ≤ sizeLine)
    (h : ∀ h' (m : Str) (u tk : Tok), (∀ b o, s.heap.get? b = some o → h'.get? b = some o) → m.length ≤ (listText ts).length + 5 → Q (.str m u) { s with heap := h', toks := tk }) : wpAny (model prog w) A (call (.builtin "list.__repr__") [.ref a]) Q E s := by
  cases its with
  | nil => exact call_list_repr_empty ⟨o, ha, hc⟩ ha hd (h s.heap "[]" _ _ (fun _ _ e => e) (Nat.le_trans fmtl_nil (Nat.le_add_left _ _)))
  | cons x l =>
    refine wpAny_call (codeAny_call_builtin F.slot_list_repr.plain F.entry_list_repr (F.slot_list_repr.check _ _ _ _ _ _ _ _ ⟨o, ha, hc⟩ (F.args_list_repr_1 _) ?_))
    show wpAny _ _ (Builtin.listReprAt 0 ⟨[.ref a], []⟩) _ _ s
    refine fmtl_head ha hd (h s.heap "[...]" _ _ (fun _ _ e => e) (Nat.le_trans fmtl_way (Nat.le_add_left _ _))) ?_
    refine wpAny_bind (m := newList []) (wpAny_newObj_type ?_)
    refine wpAny_pure ⟨F.quiet_list_repr_loop _, ?_⟩
    refine codeAny_list_repr_start (P := s.heap.objs.size) (Nat.ne_of_lt (Heap.lt_size ha)) (by simpa using hT.length_eq) (fmtl_get hT) (Heap.get?_push_of_some _ ha) hd (Heap.get?_push_size _ rfl) (fun h' u tk hk => ?_) (by omega)
    exact h h' (listText ts) u tk (fun b o e => hk b o (Nat.ne_of_lt (Heap.lt_size e)) (Heap.get?_push_of_some _ e)) (Nat.le_add_right _ _)
/-- {l} -/
theorem fmtl {a : Addr} {o : Obj} {its : List Value} {n : Nat} {ts : List Str} {Q : Value → Shared → Prop} (hu : A.units + 2 < cLine) (ha : s.heap.get? a = some o) (hc : o.cls = .type "list") (hd : o.data = .seq its.toArray n) (hT : ReprAll prog w its ts) (hsz : (listText ts).length ≤ sizeLine)
    (h : ∀ h' (m : Str) (u tk : Tok), (∀ b o, s.heap.get? b = some o → h'.get? b = some o) → m.length ≤ (listText ts).length + 5 → Q (.str m u) { s with heap := h', toks := tk }) : wpAny (model prog w) A (formatField (.ref a) Str.empty) Q E s :=
  wpAny_formatField_slot (fun _ _ => nofun) hu ⟨o, ha, hc⟩ F.slot_list_format F.slot_list_str F.slot_list_repr.toG
    (fmtl_repr (s := { s with toks := s.toks + 1 }) ha hc hd hT hsz fun h' m u tk k hm => ⟨m, u, rfl, h h' m u tk k hm⟩)
theorem fmtl_piled (ts : List Str) : piled ts = (ts.map (·.length)).sum + 2 * ts.length := by
  induction ts with
  | nil => rfl
  | cons t r ih =>
    rw [piled_cons, ih, List.map_cons, List.sum_cons, List.length_cons]
    omega
theorem fmtl_text (ts : List Str) : (listText ts).length ≤ piled ts + 3 := by
  rw [fmtl_piled]
  exact listText_len_le ts
end
end PySem
set_option linter.all false
set_option maxRecDepth 100000
set_option maxHeartbeats 4000000
/-! An own exception's __init__: its promise; the exception made. -/
namespace MP
open PySem L2 PyProof.Rows
/-- a flat value that a text may show; its own text -/
def flTx (v : V) : Prop := (∃ y : Str, v = .str y ∧ y.length ≤ 1000 ∧ ∀ c ∈ y.cps.toList, c < 16 ^ 8) ∨ (∃ i : Int, v = .int i ∧ i.natAbs.log2 < 1920) ∨ v = .non ∨ ∃ b, v = .bl b
def okTx (K : PySem.W.Frag) (H : Hp) (v : V) : Prop := ((∃ y : Str, v = .str y ∧ y.length ≤ 10000000) ∨ (∃ i : Int, v = .int i ∧ i.natAbs.log2 < 1920) ∨ v = .non ∨ ∃ b, v = .bl b) ∨ (∃ a l, v = .ref a ∧ H a = some (.tup l) ∧ l.length ≤ 100 ∧ ∀ x ∈ l, flTx x) ∨ ∃ a l, v = .ref a ∧ SqL K H a l ∧ l.length ≤ 100 ∧ ∀ x ∈ l, flTx x
theorem repr_fl {prog : Program} {w : World} : ∀ {l : List V} {its : List Value}, Vals l its → (∀ x ∈ l, flTx x) → ∃ ts, ReprAll prog w its ts ∧ piled ts ≤ l.length * 20000
  | [], _, r, _ => by
    cases r
    exact ⟨[], .nil, Nat.le_refl _⟩
  | x :: l, _, r, h => by
    cases r with
    | @cons _ u _ us r1 r2 =>
      obtain ⟨ts, h1, h2⟩ := repr_fl (prog := prog) (w := w) r2 fun z hz => h z (List.mem_cons_of_mem _ hz)
      have k : ∃ t : Str, ReprIs prog w u t ∧ t.length ≤ 19000 := by
        rcases h x List.mem_cons_self with ⟨y, rfl, hz, hc⟩ | ⟨i, rfl, hz⟩ | rfl | ⟨b, rfl⟩
        · obtain ⟨t, rfl⟩ := r1
          have e := StrLaws.reprText_len y hc
          exact ⟨_, ReprIs.str y t (by rw [sizeLine_eq]; omega), by omega⟩
        · obtain ⟨t, rfl⟩ := r1
          have e := int_text_length_le (k := 1920) (by decide) hz
          exact ⟨_, ReprIs.int t hz, by rw [PySem.ofString_length]; omega⟩
        · obtain rfl : u = Value.none := r1
          exact ⟨_, ReprIs.none, by decide⟩
        · obtain rfl : u = Value.bool b := r1
          exact ⟨_, ReprIs.bool b, by cases b <;> decide⟩
      obtain ⟨t, k1, k2⟩ := k
      refine ⟨t :: ts, .cons k1 h1, ?_⟩
      rw [piled_cons, List.length_cons]
      omega
section
variable {X : Cx}
/-- {x}: some text -/
def tFmA (K : PySem.W.Frag) (te : TE) : TE := fun σ H Q => te σ H fun x H1 => okTx K H1 x ∧ ∀ y : Str, y.length ≤ 10000000 → Q (.str y) H1
theorem pe_fmA {e : Expr} {te : TE} {pos : Pos} (hu : X.A.units + 2 < cLine) (he : PE X e te) : PE X (.FormattedValue e (-1) none pos) (tFmA X.K te) := by
  refine ⟨fun pins s σ H Q I h => ?_⟩
  refine wpAny_FormattedValue_plain (thn (he.run pins s σ H _ I h) fun v s1 hv => ?_)
  obtain ⟨x, H1, I1, r1, ok, q⟩ := hv
  rcases ok with (⟨y, rfl, hz⟩ | ⟨i, rfl, hz⟩ | rfl | ⟨b, rfl⟩) | ⟨a, l, rfl, ha, hl, hf⟩ | ⟨a, l, rfl, ha, hl, hf⟩
  · obtain ⟨t, rfl⟩ := r1
    exact wpAny_formatField_str ⟨.str y, H1, I1, ⟨t, rfl⟩, q y hz⟩ ⟨.str y, H1, I1.tok _, ⟨_, rfl⟩, q y hz⟩ (by rw [sizeLine_eq]; omega)
  · obtain ⟨t, rfl⟩ := r1
    have e := int_text_length_le (k := 1920) (by decide) hz
    exact wpAny_formatField_int hz ⟨.str (toString i), H1, I1.tok _, ⟨_, rfl⟩, q _ (by rw [PySem.ofString_length]; omega)⟩
  · obtain rfl : v = Value.none := r1
    exact wpAny_formatField_none ⟨.str "None", H1, I1.tok _, ⟨_, rfl⟩, q _ (by decide)⟩
  · obtain rfl : v = Value.bool b := r1
    exact wpAny_formatField_bool ⟨.str (if b then "True" else "False"), H1, I1.tok _, ⟨_, rfl⟩, q _ (by cases b <;> decide)⟩
  · obtain rfl : v = Value.ref a := r1
    obtain ⟨its, rv, ⟨o, ho, hcl, n, hd⟩, _⟩ := I1.tuple (SqT.of (K := X.K) ha)
    obtain ⟨ts, hT, hp⟩ := repr_fl (prog := X.prog) (w := X.w) rv hf
    have htx := fmt_text ts
    exact fmt_tuple hu ho hcl hd hT (by rw [sizeLine_eq]; omega) fun m u tk hm => ⟨.str m, H1, I1.tok _, ⟨u, rfl⟩, q m (by omega)⟩
  · obtain rfl : v = Value.ref a := r1
    obtain ⟨its, rv, ⟨o, n, ho, hcl, _, hd⟩, _⟩ := I1.list ha
    obtain ⟨ts, hT, hp⟩ := repr_fl (prog := X.prog) (w := X.w) rv hf
    have htx := fmtl_text ts
    exact fmtl hu ho hcl hd hT (by rw [sizeLine_eq]; omega) fun h' m u tk k hm => ⟨.str m, H1, I1.kept k, ⟨u, rfl⟩, q m (by omega)⟩
/-- f'pre{x}' -/
theorem pe_txt {i : Nat} {x pre : Str} {j : Nat} {p1 p2 p3 pos : Pos} (hN : X.N[i]? = some x) (hv : Vis X.env.scope x) (hd : (x == ("__debug__" : Str)) = false) (hcd : (x == ("__classdict__" : Str)) = false) (hu : X.A.units + 2 < cLine) :
    PE X (.JoinedStr [.Constant (.str pre) j p1, .FormattedValue (.Name x p2) (-1) none p3] pos) (fun σ H Q => tJs [tC (.str pre), tFmA X.K (tVar i)] Str.empty σ H fun out H1 => Q (.str out) H1) :=
  pe_joined (.cons pe_str (.cons (pe_fmA hu (pe_var hN hv hd hcd)) .nil))
theorem tx_ok {K : PySem.W.Frag} {i : Nat} {pre : Str} {σ : L2.St} {H : Hp} {v : V} (hp : pre.length ≤ 1000) (e : σ[i]? = some (some v)) (ok : okTx K H v) :
    tJs [tC (.str pre), tFmA K (tVar i)] Str.empty σ H fun out H1 => H1 = H ∧ [V.str out].length = 1 := by
  have l0 : (Str.empty ++ pre).length = pre.length := by
    rw [PySem.Str.length_append]
    show 0 + _ = _
    omega
  refine ⟨pre, rfl, by rw [l0, sizeLine_eq]; omega, v, e, ok, fun y hy => ⟨y, rfl, ?_, rfl, rfl⟩⟩
  rw [PySem.Str.length_append, l0, sizeLine_eq]
  omega
end

open NdefX
/-- what stands in K of an own exception's __init__: its function, its code object's file, its class's cell -/
structure XiK (P : Program) (K : PySem.W.Frag) (mg : Str → Option Value) (C fa : Addr) (F : NF) (cc : Addr) (fd : FuncData) : Prop where
  fn : ∃ oc od sl, K.lookup fa = some ⟨oc, od, .func fd, sl⟩
  fdF : ∃ doc pm ctv, fd = F.fd doc pm ctv
  cd : PySem.W.codeIn K (.ref F.c) F.qual = true
  fl : ∃ oco vs file tf, K.lookup F.c = some oco ∧ oco.data = .fields vs ∧ vs[2]? = some (.str file tf) ∧ ((P.main.file : Str) == file) = true
  top : (P.main.scope.names.lookup ("super" : Str)).isSome = false
  msu : mg "super" = none
  cl : F.cl = [(("__class__" : Str), cc)]
  cell : ∃ o, K.lookup cc = some o ∧ o.data = .cell (some (.ref C))
  sks : F.scope.names.lookup ("super" : Str) = some .globalImplicit
/-- the readings of the two kinds: no further parameter; one, kept as a field -/
def spX0 (C : Addr) (tn tv : Str) : Sp := fun vs H Q E => ∃ a, vs = [.ref a] ∧ H a = some (exo a C none) ∧ ∀ dx, H dx = none → dx ≠ a → Q .non (upd (upd H dx (exd dx [(tn, .str tv)])) a (exo a C (some dx)))
def spX1 (K : PySem.W.Frag) (C : Addr) (tn tv fn : Str) : Sp := fun vs H Q E => ∃ a v, vs = [.ref a, v] ∧ okTx K H v ∧ H a = some (exo a C none) ∧ ∀ dx, H dx = none → dx ≠ a →
  Q .non (upd (upd (upd H dx (exd dx [(tn, .str tv)])) a (exo a C (some dx))) dx (exd dx [(fn, v), (tn, .str tv)]))
section
variable {CX : CXT} {P : Program} {w : World} {K : PySem.W.Frag} {mg : Str → Option Value} {base : Heap} {F : NF} {fa C cc : Addr} {fd : FuncData} {k : Nat} {B newId initId : String} {bmB : List Value}
theorem cells_K {s : Shared} {H : Hp} (Z : XiK P K mg C fa F cc fd) (X : K.In base) (bs : ∀ b o, base.get? b = some o → s.heap.get? b = some o ∧ H b = none) : CellsAt F.cl ["__class__"] [none] s.heap H := by
  obtain ⟨o, ho, hd⟩ := Z.cell
  have hb := bs _ _ (X _ _ ho)
  rw [Z.cl]
  refine ⟨rfl, fun y c e => ?_, fun x y c e1 e2 => ?_, fun i y e => ?_⟩
  · rw [List.lookup_cons] at e
    split at e
    · cases e
      exact ⟨hb.2, _, o, hb.1, hd⟩
    · cases e
  · rw [List.lookup_cons] at e1 e2
    split at e1
    · rename_i q1
      split at e2
      · rename_i q2
        rw [eq_of_beq q1, eq_of_beq q2]
      · cases e2
    · cases e1
  · cases i with
    | zero =>
      cases e
      exact ⟨cc, by simp [List.lookup], fun v q => by cases q⟩
    | succ j => cases e
/-- the whole __init__: super().__init__(e), then the rest -/
theorem xini_of {ps N : List Str} {sp : Sp} {e : Expr} {te : TE} {p0 p1 p2 pos pos0 : Pos} {rest : List Stmt} {sn : Str} {ar : Arg} (T : XcC K C B newId initId bmB) (Z : XiK P K mg C fa F cc fd) (S : NScope N ps ["__class__"] F.scope) (hN : N[0]? = some sn) (hp0 : ps[0]? = some sn)
    (hbd : F.body = .Expr (.Call (.Attribute (.Call (.Name "super" p0) [] [] p1) "__init__" p2) [e] [] pos) pos0 :: rest)
    (hpar : (F.params.posonlyargs ++ F.params.args).head? = some ar) (har : ar.arg = sn) (hsn : (sn == ("__classdict__" : Str)) = false) (len : ∀ vs H Q E, sp vs H Q E → vs.length = ps.length)
    (hrun : ∀ (A : Around) (outer : List Env) (s : Shared) (H : Hp) (vs : List V) (Q : VK) (E : XK), Room k (A.deeper (envF F fa s.heap.objs.size)) → sp vs H Q E → ∃ a t, vs[0]? = some (.ref a) ∧ H a = some (exo a C none) ∧
      PE (ncx CX P w K mg base N F fa A outer s H E) e te ∧ (te (startF N vs [none]) H fun v H1 => H1 = H ∧ [v].length = 1) ∧ PSs (ncx CX P w K mg base N F fa A outer s H E) rest t ∧ t { nx := fun _ H' => Q .non H', rt := Q } (startF N vs [none]) H ∧
      starEach [e] (ncx CX P w K mg base N F fa A outer s H E).env = (false, eval e (ncx CX P w K mg base N F fa A outer s H E).env) :: starEach [] (ncx CX P w K mg base N F fa A outer s H E).env ∧
      swapsWith (.Call (.Attribute (.Call (.Name "super" p0) [] [] p1) "__init__" p2) [e] [] pos) none pos0.line (ncx CX P w K mg base N F fa A outer s H E).env = pure false ∧
      ∃ pl : Sem Bool, eval (.Call (.Attribute (.Call (.Name "super" p0) [] [] p1) "__init__" p2) [e] [] pos) (ncx CX P w K mg base N F fa A outer s H E).env = (do
      let ov ← attributeBase (.Call (.Name "super" p0) [] [] p1) "__init__" (ncx CX P w K mg base N F fa A outer s H E).env (eval (.Call (.Name "super" p0) [] [] p1) (ncx CX P w K mg base N F fa A outer s H E).env)
      standAt p2.atName
      let (f, first) ← holding [ov] (getMethod ov "__init__" pl)
      callWith pos f first (backTo pos (starEach [e] (ncx CX P w K mg base N F fa A outer s H E).env)) [])) :
    FnOk P w K mg base CX (k + 1) fa fd ps sp := by
  refine ⟨len, fun A outer s H args us vs Q E hr e0 hb r hsp => ?_⟩
  have hl := len _ _ _ _ hsp
  have KX : K.In s.heap := e0.mod.kin.keeps fun b o e => (e0.bs b o e).1
  have lim : s.heap.NoLimit := e0.mod.nolimit.keeps fun b o e => (e0.bs b o e).1
  obtain ⟨oc, od, sl, lk⟩ := Z.fn
  obtain ⟨doc, pm, ctv, rfl⟩ := Z.fdF
  have C0 := cells_K Z e0.mod.kin e0.bs
  refine codeAny_call_function hr.depth (KX _ _ lk) rfl S.co S.gen rfl (PySem.W.codeRec_of KX Z.cd) (hb _ _ _ _ ?_)
  refine wpAny_newFunctionEnv S.nocell (fun ⟨n, _⟩ hy => S.par n (List.of_mem_zip hy).1) (fun h₁ hns hsb => ⟨lim.fresh _ hsb, ?_⟩) S.kind
  show codeAny _ _ (.func F.body (envF F fa s.heap.objs.size)) _ _
  have kp : ∀ b o, s.heap.get? b = some o → h₁.get? b = some o := fun b o e => hsb.extBut b o (Nat.ne_of_lt (Heap.lt_size e)) (Heap.get?_push_of_some _ e)
  obtain ⟨a, t, h0, ha, hpe, hte, hps, hq, hst, hsw, pl, hc⟩ := hrun A outer s H vs Q E (hr.deeper _) hsp
  have I : Inv (ncx CX P w K mg base N F fa A outer s H E) [] (startF N vs [none]) H { s with heap := h₁, toks := s.toks + (ps.zip us).length } := inv_startN S hr.hd e0 hl r C0 hns kp
  have KX1 := I.kIn
  refine ks_codeAny_funcAt ?_
  rw [hbd]
  refine ks_wpAt_execs_cons (ks_wpAt_Expr_any ?_ ?_ hsw)
  rotate_left
  · exact I.quiet
  have σ0 : (startF N vs [none])[0]? = some (some (.ref a)) := by
    unfold startF
    have hv : 0 < vs.length := (List.getElem?_eq_some_iff.mp h0).1
    rw [List.getElem?_append_left (by rw [List.length_map]; exact hv), List.getElem?_map, h0]
    rfl
  have hloc : F.scope.names.lookup sn = some .local := S.par sn (List.mem_of_getElem? hp0)
  obtain ⟨oco, vs', file, tf, hco, hoc, hvs, hfile⟩ := Z.fl
  obtain ⟨oc', hcc, hcd⟩ := Z.cell
  refine sup_at (X := ncx CX P w K mg base N F fa A outer s H E) T I ha hN σ0 ?_ Z.sks Z.msu (S.frk _ (List.mem_cons_self ..)) ?_ ⟨oc', KX1 _ _ hcc, hcd⟩ rfl (KX1 _ _ lk) rfl hpar har rfl (KX1 _ _ hco) hoc hvs hfile Z.top hpe hte (fun s' J => ?_) hsn hc hst
  · exact .inl hloc
  · show F.cl.lookup ("__class__" : Str) = some cc
    rw [Z.cl]
    simp [List.lookup]
  · refine wpAt_of_wpAny (wpAny_mono (hps.run [] s' (startF N vs [none]) H _ J hq) (fun fl s2 hs => ?_) fun _ _ z => z)
    have fin : ∀ {σ' : L2.St} {H' : Hp} {v : V} {u : Value}, Inv (ncx CX P w K mg base N F fa A outer s H E) [] σ' H' s2 → L2.RelV v u → Q v H' → CE outer P w H s Q u s2 :=
      fun {σ' H' v u} J rv q => ⟨v, H', J.os, J.bare, J.base, J.hok, rv, q⟩
    cases fl with
    | ret u =>
      obtain ⟨v, σ', H', J, rv, q⟩ := hs
      exact fin J rv q
    | next =>
      obtain ⟨σ', H', J, q⟩ := hs
      exact fin (v := V.non) (u := Value.none) J rfl q
    | brk =>
      obtain ⟨_, _, _, q⟩ := hs
      exact False.elim q
    | cont =>
      obtain ⟨_, _, _, q⟩ := hs
      exact False.elim q
end
end MP
set_option linter.all false
set_option maxRecDepth 100000
set_option maxHeartbeats 4000000
/-! The two kinds of own exceptions' __init__. -/
namespace MP
open PySem L2 PyProof.Rows NdefX
theorem sup_eq {p0 p1 p2 pos : Pos} {e : Expr} {env : Env} (hl : (p2.endLine == pos.line) = true) (hst : starEach [e] env = (false, eval e env) :: starEach [] env) :
    eval (.Call (.Attribute (.Call (.Name "super" p0) [] [] p1) "__init__" p2) [e] [] pos) env = (do
      let ov ← attributeBase (.Call (.Name "super" p0) [] [] p1) "__init__" env (eval (.Call (.Name "super" p0) [] [] p1) env)
      standAt p2.atName
      let (f, first) ← holding [ov] (getMethod ov "__init__" (do return (← importBound (.Call (.Name "super" p0) [] [] p1) env).getD true))
      callWith pos f first (backTo pos (starEach [e] env)) []) := by
  rw [arm_eval_Call, hst]
  have e1 : ∀ m, methodCallPos m (.Call (.Name "super" p0) [] [] p1) env p2 pos = pure pos := fun m => by
    unfold methodCallPos
    rw [hl, Bool.or_true]
    rfl
  unfold methodCall
  simp only [e1, pure_bind]
  rfl
section
variable {CX : CXT} {P : Program} {w : World} {K : PySem.W.Frag} {mg : Str → Option Value} {base : Heap} {F : NF} {fa C cc : Addr} {fd : FuncData} {k : Nat} {B newId initId : String} {bmB : List Value}
theorem xini0 {sn tn tv txt : Str} {ar : Arg} {j0 j1 : Nat} {p0 p1 p2 p3 p4 p5 p6 pos pos0 pos1 : Pos} (T : XcC K C B newId initId bmB) (Z : XiK P K mg C fa F cc fd) (S : NScope [sn, "__class__"] [sn] ["__class__"] F.scope)
    (hbd : F.body = [.Expr (.Call (.Attribute (.Call (.Name "super" p0) [] [] p1) "__init__" p2) [.Constant (.str txt) j0 p3] [] pos) pos0, .Assign [.Attribute (.Name sn p4) tn p5] (.Constant (.str tv) j1 p6) pos1])
    (hpar : (F.params.posonlyargs ++ F.params.args).head? = some ar) (har : ar.arg = sn) (hsn : (sn == ("__classdict__" : Str)) = false) (hsd : (sn == ("__debug__" : Str)) = false) (hl : (p2.endLine == pos.line) = true) (htn : PySem.W.findIn K (.ref C) tn = some none) :
    FnOk P w K mg base CX (k + 1) fa fd [sn] (spX0 C tn tv) := by
  refine xini_of (te := tC (.str txt)) T Z S rfl rfl hbd hpar har hsn (fun vs H Q E ⟨a, e, _⟩ => by rw [e]; rfl) fun A outer s H vs Q E hrm ⟨a, e, ha, hq⟩ => ?_
  subst e
  have hv : Vis (ncx CX P w K mg base [sn, "__class__"] F fa A outer s H E).env.scope sn := .inl (S.par sn (List.mem_cons_self ..))
  refine ⟨a, _, rfl, ha, pe_str, ⟨rfl, rfl⟩, pss_one (ps_xst T (pe_var (i := 0) rfl hv hsd hsn) pe_str rfl), ⟨.ref a, rfl, a, rfl, htn, .inl ⟨ha, hq⟩⟩, rfl, rfl, _, sup_eq hl rfl⟩
theorem xini1 {sn x tn tv fn pre : Str} {ar : Arg} {j0 j1 : Nat} {p0 p1 p2 p3 p4 p5 p6 p7 p8 p9 q1 q2 q3 q4 pos pos0 pos1 pos2 : Pos} (T : XcC K C B newId initId bmB) (Z : XiK P K mg C fa F cc fd) (S : NScope [sn, x, "__class__"] [sn, x] ["__class__"] F.scope)
    (hbd : F.body = [.Expr (.Call (.Attribute (.Call (.Name "super" p0) [] [] p1) "__init__" p2) [.JoinedStr [.Constant (.str pre) j0 p3, .FormattedValue (.Name x p4) (-1) none p5] p6] [] pos) pos0,
      .Assign [.Attribute (.Name sn p7) tn p8] (.Constant (.str tv) j1 p9) pos1, .Assign [.Attribute (.Name sn q1) fn q2] (.Name x q3) pos2])
    (hpar : (F.params.posonlyargs ++ F.params.args).head? = some ar) (har : ar.arg = sn) (hsn : (sn == ("__classdict__" : Str)) = false) (hsd : (sn == ("__debug__" : Str)) = false) (hxn : (x == ("__classdict__" : Str)) = false) (hxd : (x == ("__debug__" : Str)) = false)
    (hpre : pre.length ≤ 1000) (hl : (p2.endLine == pos.line) = true) (htn : PySem.W.findIn K (.ref C) tn = some none) (hfn : PySem.W.findIn K (.ref C) fn = some none) : FnOk P w K mg base CX (k + 1) fa fd [sn, x] (spX1 K C tn tv fn) := by
  refine xini_of (te := fun σ H Q => tJs [tC (.str pre), tFmA K (tVar 1)] Str.empty σ H fun out H1 => Q (.str out) H1) T Z S rfl rfl hbd hpar har hsn (fun vs H Q E ⟨a, v, e, _⟩ => by rw [e]; rfl) fun A outer s H vs Q E hrm ⟨a, v, e, ok, ha, hq⟩ => ?_
  subst e
  have hv : Vis (ncx CX P w K mg base [sn, x, "__class__"] F fa A outer s H E).env.scope sn := .inl (S.par sn (List.mem_cons_self ..))
  have hx : Vis (ncx CX P w K mg base [sn, x, "__class__"] F fa A outer s H E).env.scope x := .inl (S.par x (List.mem_cons_of_mem _ (List.mem_cons_self ..)))
  have pv := pe_var (pos := q1) (X := ncx CX P w K mg base [sn, x, "__class__"] F fa A outer s H E) (i := 0) rfl hv hsd hsn
  refine ⟨a, _, rfl, ha, pe_txt (i := 1) rfl hx hxd hxn (by have := hrm.un; show (A.deeper (envF F fa s.heap.objs.size)).units + 2 < cLine; omega), tx_ok hpre rfl ok, pss_cons (ps_xst T (pe_var (i := 0) rfl hv hsd hsn) pe_str rfl) (pss_one (ps_xst T pv (pe_var (i := 1) rfl hx hxd hxn) rfl)), ?_, rfl, rfl, _, sup_eq hl rfl⟩
  refine ⟨.ref a, rfl, a, rfl, htn, .inl ⟨ha, fun dx hdx hne => ⟨v, rfl, .ref a, rfl, a, rfl, hfn, .inr ⟨dx, [(tn, .str tv)], upd_same, ?_, by simp, hq dx hdx hne⟩⟩⟩⟩
  rw [upd_ne hne]
  exact upd_same
end
end MP
set_option linter.all false
set_option maxRecDepth 100000
set_option maxHeartbeats 4000000
/-! An own exception made and raised. -/
namespace MP
open PySem L2 PyProof.Rows NdefX
section
variable {X : Cx} {CX : CXT} {x : Str} {C fI : Addr} {k : Nat} {fd : FuncData} {ps : List Str} {sp : Sp} {B newId initId : String} {bmB : List Value} {e : Expr} {es : List Expr} {ta : TA} {p pos : Pos}
/-- behind the arguments -/
theorem mkx_run {pins : List (Addr × Obj)} {σ : L2.St} {H : Hp} {s : Shared} {us : List Value} {vs : List V} {Q : XK} (T : XcC X.K C B newId initId bmB) (iC : PySem.W.findIn X.K (.ref C) "__init__" = some (some (.ref fI))) (tI : PySem.W.typeIn X.K (.ref fI) = some (.type "function"))
    (F1 : FnOk X.prog X.w X.K X.mg X.base CX k fI fd ps sp) (hr : Room (k + 1) X.A) (hb : Binds X.K fd ps []) (hx : Passes CX X (fun _ _ _ => False)) (I1 : Inv X pins σ H s) (r1 : Vals vs us) (hz : vs.length ≤ 1000)
    (q1 : ∀ a, H a = none → sp (.ref a :: vs) (upd H a (exo a C none)) (fun v H2 => v = .non ∧ ∃ (d : Addr) (fs : List (Str × V)), H2 a = some (exo a C (some d)) ∧ H2 d = some (exd d fs) ∧ H d = none ∧ Q (.ref C) (some d) (upd (del H2 a) d (.xd fs))) (fun _ _ _ => False)) :
    wpAny (model X.prog X.w) X.A (call (.ref C) us) (MkP X pins σ Q) X.xe s := by
  obtain ⟨nm, N, qn, bs, bm, hdct, sn, sub, ab, col, dd, k0, k1, k2, k3, k5, hC, hT⟩ := PySem.W.excInit_of I1.kIn T.ini
  obtain ⟨hp, g, dr, tk, os⟩ := s
  have hsz : hp.objs.size ≤ hp.objs.size + 1 := Nat.le_succ _
  have hn : H (hp.objs.size + 1) = none := I1.hok.fresh hsz
  have hq := q1 (hp.objs.size + 1) hn
  have kk : ∀ b o, hp.get? b = some o → ((hp.push (PySem.W.kdv_tup us)).push (PySem.HandSPX.excO C hp.objs.size)).get? b = some o := fun b o e => Heap.get?_push_of_some _ (Heap.get?_push_of_some _ e)
  have hget : ((hp.push (PySem.W.kdv_tup us)).push (PySem.HandSPX.excO C hp.objs.size)).get? (hp.objs.size + 1) = some (PySem.HandSPX.excO C hp.objs.size) := by heap_get
  have I2 : Inv X pins σ (upd H (hp.objs.size + 1) (exo (hp.objs.size + 1) C none)) ⟨(hp.push (PySem.W.kdv_tup us)).push (PySem.HandSPX.excO C hp.objs.size), g, dr, tk, os⟩ :=
    I1.laid (t' := tk) (a := hp.objs.size + 1) (o := exo (hp.objs.size + 1) C none) (h' := (hp.push (PySem.W.kdv_tup us)).push (PySem.HandSPX.excO C hp.objs.size)) kk hsz (exo_ok hget)
  have r2 : Vals (V.ref (hp.objs.size + 1) :: vs) (Value.ref (hp.objs.size + 1) :: us) := .cons rfl r1
  have hl : (Value.ref (hp.objs.size + 1) :: us ++ []).length = ps.length := by
    have e := r2.length
    rw [F1.len _ _ _ _ hq] at e
    rw [List.append_nil]
    exact e.symm
  have hus : us.length ≤ sizeLine := by
    rw [← Paired.length r1, sizeLine_eq]
    omega
  have hb2 := hb ⟨(hp.push (PySem.W.kdv_tup us)).push (PySem.HandSPX.excO C hp.objs.size), g, dr, tk, os⟩ (Value.ref (hp.objs.size + 1) :: us) I2.kIn hl
  rw [List.append_nil] at hb2
  refine wpAny_call (PySem.HandSPX.call_own T.fb hT hC (PySem.W.looks_findIn I1.kIn iC) (fun self => PySem.W.bind_fn I1.kIn self tI) hus
    (codeAny_mono (F1.run _ X.stack _ _ ⟨Value.ref (hp.objs.size + 1) :: us, []⟩ (Value.ref (hp.objs.size + 1) :: us) _ _ (fun _ _ _ => False) (hr.make C us []) (I2.env0.make C us []) hb2 r2 hq) fun r s' hq' => ?_))
  cases r with
  | error er => exact hx pins σ _ _ er s' I2 hq'
  | ok fl =>
    cases fl with
    | ret u =>
      obtain ⟨v, H2, os2, bare2, un2, hok2, rv, ev, d, fs, ea, ed, hd1, q2⟩ := hq'
      subst ev
      obtain ⟨h2, g2, d2, t2, os'⟩ := s'
      exact ⟨rv, mk_end (raises_own T.exC T.tyC) I1 hsz kk un2 hok2 os2 bare2 ea ed hd1 q2⟩
    | next => exact False.elim hq'
    | brk => exact False.elim hq'
    | cont => exact False.elim hq'
theorem pmk_x (T : XcC X.K C B newId initId bmB) (iC : PySem.W.findIn X.K (.ref C) "__init__" = some (some (.ref fI))) (tI : PySem.W.typeIn X.K (.ref fI) = some (.type "function"))
    (F1 : FnOk X.prog X.w X.K X.mg X.base CX k fI fd ps sp) (hr : Room (k + 1) X.A) (hb : Binds X.K fd ps []) (hx : Passes CX X (fun _ _ _ => False)) (hg : Gl X x) (hm : X.mg x = some (.ref C)) (ha : PA X (e :: es) ta)
    (hdb : (x == ("__debug__" : Str)) = false) (he : starEach (e :: es) X.env = (false, eval e X.env) :: starEach es X.env) (hpl : (backTo pos (starEach es X.env)).any (·.1) = false) :
    PMk X (.Call (.Name x p) (e :: es) [] pos) (tMkO C sp [] ta) := by
  intro pins s σ H Q I h
  refine wpAny_Call_Name_kw (ld_glob I hg hm ?_ hdb)
  refine PySem.W.callWith_K (h₀ := X.base) I.ok.mod.kin T.kC (thn (ha.run pos pins s σ H _ I h) fun us s1 ⟨vs, H1, I1, r1, hz, q1⟩ => ⟨I1.kIn, ?_⟩) he hpl
  refine mkx_run T iC tI F1 hr hb hx I1 r1 hz fun a hn => ?_
  have q := q1 a hn
  rw [List.append_nil] at q
  exact q
end
end MP
set_option linter.all false
set_option maxRecDepth 100000
set_option maxHeartbeats 4000000
/-! raise C(..) -/
namespace MP
open PySem L2 PyProof.Rows NdefX
theorem flTx_ok {M : Wd} {r : List Addr} {v : Va} {x : V} (z : RV M r v x) (e : txFl v = true) : flTx x := by
  cases v with
  | non => exact .inr (.inr (.inl z))
  | bl b => exact .inr (.inr (.inr ⟨b, z⟩))
  | int i => exact .inr (.inl ⟨i, z, Nat.le_of_ble_eq_true e⟩)
  | str y =>
    have e : (Nat.ble y.length 1000 && y.all fun c => Nat.blt c 1114112) = true := e
    rw [Bool.and_eq_true] at e
    refine .inl ⟨_, z, by rw [str_len]; exact Nat.le_of_ble_eq_true e.1, fun c hc => ?_⟩
    have hc : c ∈ y := by simpa using hc
    have := Nat.le_of_ble_eq_true (List.all_eq_true.mp e.2 c hc)
    omega
  | _ => cases e
theorem sqlK_mono {K : PySem.W.Frag} {H H' : Hp} {a : Addr} {xs : List V} (e : ∀ p o, H p = some o → H' p = some o) (h : SqL K H a xs) : SqL K H' a xs := by
  rcases h with (h | ⟨p, h⟩) | h
  · exact .inl (.inl (e _ _ h))
  · exact .inl (.inr ⟨p, e _ _ h⟩)
  · exact .inr h
theorem txOk_ok {M : Wd} {K : PySem.W.Frag} {r : List Addr} {h : Hv} {H H' : Hp} (he : Emb M r h H) (k : ∀ p o, H p = some o → H' p = some o) {v : Va} {x : V} (z : RV M r v x) (e : txOk h v = true) : okTx K H' x := by
  cases v with
  | non => exact .inl (.inr (.inr (.inl z)))
  | bl b => exact .inl (.inr (.inr (.inr ⟨b, z⟩)))
  | int i => exact .inl (.inr (.inl ⟨i, z, Nat.le_of_ble_eq_true e⟩))
  | str y => exact .inl (.inl ⟨_, z, by rw [str_len]; exact Nat.le_of_ble_eq_true e⟩)
  | ref a =>
    have e : (match h.get a with
      | some (.tup xs) => Nat.ble xs.length 100 && xs.all txFl
      | _ => (match h.rd a with
        | some (.lst xs) => Nat.ble xs.length 100 && xs.all txFl
        | _ => false)) = true := e
    have go : ∀ {xs : List Va} {ys : List V}, RVs M r xs ys → xs.all txFl = true → ∀ x ∈ ys, flTx x := fun {xs ys} ls => by
      induction ls with
      | nil => exact fun _ x hx => absurd hx List.not_mem_nil
      | cons a t ih =>
        intro h x hx
        rw [List.all_cons, Bool.and_eq_true] at h
        rcases List.mem_cons.mp hx with k | k
        · rw [k]
          exact flTx_ok a h.1
        · exact ih h.2 x k
    split at e
    · rename_i xs q
      rw [Bool.and_eq_true] at e
      obtain ⟨p, ys, rfl, _, hp, ls⟩ := get_tup he q z
      exact .inr (.inl ⟨p, ys, rfl, k _ _ hp, by rw [← ls.length]; exact Nat.le_of_ble_eq_true e.1, go ls e.2⟩)
    · split at e
      · rename_i xs q
        rw [Bool.and_eq_true] at e
        obtain ⟨p, ys, rfl, _, hp, ls⟩ := rd_lst he q z K
        exact .inr (.inr ⟨p, ys, rfl, sqlK_mono k hp, by rw [← ls.length]; exact Nat.le_of_ble_eq_true e.1, go ls e.2⟩)
      · cases e
  | _ => cases e
/-- an own exception's class, its __init__'s promise -/
def XOk (X : Cx) (M : Wd) (c tf : Nat) (tag : List Nat) (pf : Option Nat) : Prop := ∃ (B newId initId : String) (bmB : List Value) (fI : Addr) (fd : FuncData) (ps : List Str), XcC X.K (M.ca c) B newId initId bmB ∧
  PySem.W.findIn X.K (.ref (M.ca c)) "__init__" = some (some (.ref fI)) ∧ PySem.W.typeIn X.K (.ref fI) = some (.type "function") ∧ Binds X.K fd ps [] ∧
  FnOk X.prog X.w X.K X.mg X.base (L2.CX X.prog X.w) 1 fI fd ps (match pf with
    | none => spX0 (M.ca c) (M.an tf) ⟨tag.toArray⟩
    | some f => spX1 X.K (M.ca c) (M.an tf) ⟨tag.toArray⟩ (M.an f))
theorem fin_xd {H : Hp} {a dx C : Addr} {o1 o2 u : HO} (hn : H a = none) (hd : H dx = none) (ne : dx ≠ a) : upd (del (upd (upd (upd H a o1) dx o2) a (exo a C (some dx))) a) dx u = upd H dx u := by
  funext b
  by_cases h1 : b = dx
  · rw [h1, upd_same, upd_same]
  · rw [upd_ne h1, upd_ne h1]
    by_cases h2 : b = a
    · rw [h2, del_same, hn]
    · rw [del_ne h2, upd_ne h2, upd_ne h1, upd_ne h2]
theorem fin_xd2 {H : Hp} {a dx C : Addr} {o1 o2 o3 u : HO} (hn : H a = none) (hd : H dx = none) (ne : dx ≠ a) : upd (del (upd (upd (upd (upd H a o1) dx o2) a (exo a C (some dx))) dx o3) a) dx u = upd H dx u := by
  funext b
  by_cases h1 : b = dx
  · rw [h1, upd_same, upd_same]
  · rw [upd_ne h1, upd_ne h1]
    by_cases h2 : b = a
    · rw [h2, del_same, hn]
    · rw [del_ne h2, upd_ne h1, upd_ne h2, upd_ne h1, upd_ne h2]
section
variable {X : Cx} {M : Wd} {T : Tb} {c tf : Nat} {tag : List Nat} {pf : Option Nat} {r : List Addr} {h : Hv} {H : Hp} {s : Fr} {σ : L2.St} {W : WX} {D : Ends} {vs : List Va} {ys : List V}
/-- what the making asks, from the small result -/
theorem mkx_sp (he : Emb M r h H) (z : RVs M r vs ys) (et : T.exc c = some (tf, tag, pf)) (q : Cs M W D r H (raiseF T c vs s h)) (hs : RF M r s σ) : ys.length ≤ 1000 ∧ ∀ a, H a = none →
    (match pf with
    | none => spX0 (M.ca c) (M.an tf) ⟨tag.toArray⟩
    | some f => spX1 X.K (M.ca c) (M.an tf) ⟨tag.toArray⟩ (M.an f)) (.ref a :: ys) (upd H a (exo a (M.ca c) none))
      (fun (v : V) H2 => v = V.non ∧ ∃ (d : Addr) (fs : List (Str × V)), H2 a = some (exo a (M.ca c) (some d)) ∧ H2 d = some (exd d fs) ∧ H d = none ∧ W (.ref (M.ca c)) (some d) σ (upd (del H2 a) d (.xd fs))) (fun _ _ _ => False) := by
  unfold raiseF excF at q
  rw [et] at q
  cases pf with
  | none =>
    cases vs with
    | cons _ _ => exact q.elim
    | nil =>
      cases z
      refine ⟨Nat.zero_le _, fun a hn => ⟨a, rfl, upd_same, fun dx hdx ne => ⟨rfl, dx, _, upd_same, by rw [upd_ne ne]; exact upd_same, ?_, ?_⟩⟩⟩
      · rw [upd_ne ne] at hdx
        exact hdx
      · rw [upd_ne ne] at hdx
        rw [fin_xd hn hdx ne]
        have g := he.laid hdx (u := .xd [(M.an tf, V.str ⟨tag.toArray⟩)])
        exact q r σ _ dx _ g hs (.cons (show (M.an tf : Str) = M.an tf ∧ V.str ⟨tag.toArray⟩ = V.str ⟨tag.toArray⟩ from ⟨rfl, rfl⟩) .nil) upd_same
  | some f =>
    cases vs with
    | nil => exact q.elim
    | cons v t =>
      cases t with
      | cons _ _ => exact q.elim
      | nil =>
        have q : Cs M W D r H (match (match txOk h v with
          | true => some [(f, v), (tf, .str tag)]
          | false => none) with
          | some fs => .ex c fs s h
          | none => .no) := q
        cases e : txOk h v with
        | false =>
          rw [e] at q
          exact q.elim
        | true =>
          rw [e] at q
          cases z with
          | @cons _ y _ _ zy zt =>
            cases zt
            refine ⟨by simp, fun a hn => ⟨a, y, rfl, txOk_ok he (fun p o q => by rw [upd_ne (ne_of_none q hn)]; exact q) zy e, upd_same, fun dx hdx ne => ⟨rfl, dx, _, by rw [upd_ne (Ne.symm ne)]; exact upd_same, upd_same, ?_, ?_⟩⟩⟩
            · rw [upd_ne ne] at hdx
              exact hdx
            · rw [upd_ne ne] at hdx
              rw [fin_xd2 hn hdx ne]
              have g := he.laid hdx (u := .xd [(M.an f, y), (M.an tf, V.str ⟨tag.toArray⟩)])
              exact q r σ _ dx _ g hs (.cons ⟨rfl, zy⟩ (.cons (show (M.an tf : Str) = M.an tf ∧ V.str ⟨tag.toArray⟩ = V.str ⟨tag.toArray⟩ from ⟨rfl, rfl⟩) .nil)) upd_same
variable {x : Str} {p pos pos0 : Pos} {e : Expr} {es : List Expr} {ga : Fr → Hv → Rs (List Va)}
theorem ss_rais (O : XOk X M c tf tag pf) (et : T.exc c = some (tf, tag, pf)) (hr : Room 2 X.A) (hc : X.calm = true) (tk : Takes X W) (hg : Gl X x) (hm : X.mg x = some (.ref (M.ca c))) (hd : (x == ("__debug__" : Str)) = false) (ha : PA X (e :: es) (tFA M W ga))
    (hst : starEach (e :: es) X.env = (false, eval e X.env) :: starEach es X.env) (hpl : (backTo pos (starEach es X.env)).any (·.1) = false) :
    PS X (.Raise (some (.Call (.Name x p) (e :: es) [] pos)) none pos0) (tS M W fun s h => (ga s h).st s fun vs h1 => raiseF T c vs s h1) := by
  obtain ⟨B, newId, initId, bmB, fI, fd, ps, Tc, iC, tI, hb, F1⟩ := O
  refine PS.imp (ps_raise hc tk (pmk_x Tc iC tI F1 hr hb (passes_call tk fun _ _ _ _ z => z.elim) hg hm ha hd hst hpl)) fun D σ H ⟨r, s, h, hs, he, q⟩ => tFA.stS hs he q fun r1 vs h1 ys H1 g1 hs1 he1 z1 q1 => ?_
  obtain ⟨l, k⟩ := mkx_sp he1 z1 et q1 hs1
  refine ⟨l, fun a hn => ?_⟩
  rw [List.append_nil]
  exact k a hn
theorem pmk_x0 {C fI : Addr} {fd : FuncData} {ps : List Str} {sp : Sp} {B newId initId : String} {bmB : List Value} {k : Nat} {CX : CXT} (T : XcC X.K C B newId initId bmB) (iC : PySem.W.findIn X.K (.ref C) "__init__" = some (some (.ref fI))) (tI : PySem.W.typeIn X.K (.ref fI) = some (.type "function"))
    (F1 : FnOk X.prog X.w X.K X.mg X.base CX k fI fd ps sp) (hr : Room (k + 1) X.A) (hb : Binds X.K fd ps []) (hx : Passes CX X (fun _ _ _ => False)) (hg : Gl X x) (hm : X.mg x = some (.ref C)) (hdb : (x == ("__debug__" : Str)) = false) :
    PMk X (.Call (.Name x p) [] [] pos) (tMkO C sp [] tNil) := by
  intro pins s σ H Q I h
  refine wpAny_Call_Name_kw (ld_glob I hg hm ?_ hdb)
  obtain ⟨hz, q1⟩ := h
  refine PySem.W.callWith_K0 I.kIn T.kC (mkx_run (us := []) (vs := []) T iC tI F1 hr hb hx I .nil (Nat.zero_le _) fun a hn => q1 a hn)
theorem ss_rais0 (O : XOk X M c tf tag pf) (et : T.exc c = some (tf, tag, pf)) (hr : Room 2 X.A) (hc : X.calm = true) (tk : Takes X W) (hg : Gl X x) (hm : X.mg x = some (.ref (M.ca c))) (hd : (x == ("__debug__" : Str)) = false) :
    PS X (.Raise (some (.Call (.Name x p) [] [] pos)) none pos0) (tS M W fun s h => raiseF T c [] s h) := by
  obtain ⟨B, newId, initId, bmB, fI, fd, ps, Tc, iC, tI, hb, F1⟩ := O
  refine PS.imp (ps_raise hc tk (pmk_x0 Tc iC tI F1 hr hb (passes_call tk fun _ _ _ _ z => z.elim) hg hm hd)) fun D σ H ⟨r, s, h, hs, he, q⟩ => ?_
  obtain ⟨l, k⟩ := mkx_sp he .nil et q hs
  exact ⟨l, fun a hn => k a hn⟩
end
end MP
set_option linter.all false
set_option maxRecDepth 100000
set_option maxHeartbeats 4000000
/-! An own exception as a value; made by a keyword. -/
namespace PySem
namespace HandSPX
open Builtin Builtin.ObjectAttr
section
variable {prog : Program} {w : World} {A : Around} {E : Value → Shared → Prop} {R : Result → Shared → Prop} {h : Heap} {g : Array GenState} {d : Drawn} {t : Nat} {os : OsState}
variable {nm q : Str} {C N : Addr} {bs bm bmB : List Value} {hdct : Bool} {sn : List Str} {sub : List Value} {ab : Bool} {col : Option Bool} {dd : Option Addr} {k0 k1 k2 k3 k5 : Option Value} {B newId initId : String} {kn : Str} {kv : Value}
theorem check_new_kw {M : Model} (F : ExcBaseFacts B newId initId bmB) (hT : ∀ X : String, bm.contains (.type X) = bmB.contains (.type X)) {Q : Unit → Shared → Prop}
    (hC : h.get? C = some (excClassObj nm q C N bs bm hdct sn sub ab col dd k0 k1 k2 k3 k5 newId)) (hq : Q () ⟨h, g, d, t, os⟩) : wpAny M A (checkBuiltinCall newId ⟨[.ref C], [(kn, kv)]⟩) Q E ⟨h, g, d, t, os⟩ := by
  have hcont : (Value.ref C :: bm).contains (.type B) = true := by rw [List.contains_cons, hT, F.hasB, Bool.or_true]
  have hstar := F.noStar
  simp only [checkBuiltinCall, F.newKind, F.newSplit, F.newRow]
  repeat (first | refine wpAny_loadPart_at hC ?_ | (refine wpAny_isSubtype_exc hC ?_; rw [hcont]) | refine wpAny_staticBase_exc hC ?_ | refine wpAny_madeBy_exc hC ?_ | simp only [bne_self_eq_false, Bool.false_eq_true, if_false] | wp_step)
  exact hq
theorem new_own_kw (F : ExcBaseFacts B newId initId bmB) (hT : ∀ X : String, bm.contains (.type X) = bmB.contains (.type X))
    (hC : h.get? C = some (excClassObj nm q C N bs bm hdct sn sub ab col dd k0 k1 k2 k3 k5 newId))
    (hq : R (.ok (.ret (.ref (h.objs.size + 1)))) ⟨(h.push { cls := .type "tuple", data := .seq [].toArray }).push
      { cls := .ref C, data := .fields #[.ref h.objs.size, .none, .none, .none, .bool false, .none] }, g, d, t, os⟩) :
    codeAny (model prog w) A (.builtin newId ⟨[.ref C], [(kn, kv)]⟩) R ⟨h, g, d, t, os⟩ := by
  have hends := F.ends
  have hcB : (Value.ref C :: bm).contains (.type B) = true := by rw [List.contains_cons, hT, F.hasB, Bool.or_true]
  have hcA : (Value.ref C :: bm).contains (.type "AttributeError") = false := by rw [List.contains_cons, hT, F.noAttr]; rfl
  have hcN : (Value.ref C :: bm).contains (.type "NameError") = false := by rw [List.contains_cons, hT, F.noName]; rfl
  refine codeAny_builtinAt F.entry ?_
  unfold Builtin.«BaseException.__new__»
  refine wpAt_bind ?_
  show wpAt _ _ _ (stack >>= _) _ _ _
  refine wpAt_bind (wpAt_stack fun p below => wpAt_of_wpAny ?_)
  wp_walk
  refine wpAt_of_wpAny ?_
  rw [F.owner]
  repeat (first | with_reducible refine wpAny_madeHere_exc F.canon hC ?_ | with_reducible refine wpAny_loadPart_at hC ?_ | (with_reducible refine wpAny_isSubtype_exc hC ?_; first | rw [hcB] | rw [hcA] | rw [hcN]) | wp_step)
  show R _ _
  rw [Heap.size_push]
  exact hq
theorem type_call_kw (F : ExcBaseFacts B newId initId bmB) (hT : ∀ X : String, bm.contains (.type X) = bmB.contains (.type X)) {fI : Addr} {Q : Fin → Shared → Prop}
    (hC : h.get? C = some (excClassObj nm q C N bs bm hdct sn sub ab col dd k0 k1 k2 k3 k5 newId))
    (hi : W.Looks (model prog w) h (typeLookup (.ref C) "__init__") (some (.ref fI))) (hb : ∀ self, W.Looks (model prog w) h (bindSpecial (.ref fI) self) (.ref fI, [self]))
    (hq : codeAny (model prog w) A (.call (.ref fI) ⟨[.ref (h.objs.size + 1)], [(kn, kv)]⟩)
      (fun r s' => match r with | .ok (.ret v) => v = .none ∧ Q (.done (.ret (.ref (h.objs.size + 1)))) s' | .ok _ => False | .error e => E e s')
      ⟨(h.push (W.kdv_tup [])).push (excO C h.objs.size), g, d, t, os⟩) :
    wpAny (model prog w) A (Builtin.«type.__call__» ⟨[.ref C], [(kn, kv)]⟩) Q E ⟨h, g, d, t, os⟩ := by
  repeat (first | with_reducible refine wpAny_loadPart_at hC ?_ | with_reducible refine wpAny_madeBy_exc hC ?_ | wp_step)
  refine codeAny_call_builtin_code (Code.quiet_builtin _ F.quiet) (check_new_kw F hT hC ?_)
  refine new_own_kw F hT hC ?_
  show wpAny _ _ _ _ _ _
  have k : ∀ b o, h.get? b = some o → ((h.push (W.kdv_tup [])).push (excO C h.objs.size)).get? b = some o := fun b o e => Heap.get?_push_of_some _ (Heap.get?_push_of_some _ e)
  have hC₁ := k _ _ hC
  have hget : ((h.push (W.kdv_tup [])).push (excO C h.objs.size)).get? (h.objs.size + 1) = some (excO C h.objs.size) := by heap_get
  have hcC : (Value.ref C :: bm).contains (.ref C) = true := by simp
  have i1 := hi.keeps k
  have b1 := (hb (.ref (h.objs.size + 1))).keeps k
  unfold isInstance
  repeat (first | with_reducible refine wpAny_loadPart_at hget ?_ | (with_reducible refine wpAny_isSubtype_exc hC₁ ?_; rw [hcC]) | wp_step)
  show wpAny _ _ (typeLookup (.ref C) _) _ _ _
  refine i1.at ?_
  refine wpAny_holding (wpAny_bind (b1.at ?_))
  refine wpAny_bind (wpAny_call (codeAny_mono hq fun r s' z => ?_))
  rcases r with e | (v | _ | _ | _) <;> first | exact z | exact z.elim | skip
  obtain ⟨rfl, z⟩ := z
  first
    | exact wpAny_pure (wpAny_pure z)
    | (wp_walk; exact z)
theorem check_type_kw {M : Model} {Q : Unit → Shared → Prop} (hC : h.get? C = some (excClassObj nm q C N bs bm hdct sn sub ab col dd k0 k1 k2 k3 k5 newId))
    (hq : Q () ⟨h, g, d, t, os⟩) : wpAny M A (checkBuiltinCall "type.__call__" ⟨[.ref C], [(kn, kv)]⟩) Q E ⟨h, g, d, t, os⟩ := by
  have f3 := tc_sub
  have hT : (⟨h, g, d, t, os⟩ : Shared).TypeIs (.ref C) "type" := ⟨_, hC, rfl⟩
  simp only [checkBuiltinCall, tc_kind, tc_split]
  repeat (any_goals (first | assumption | with_reducible refine wpAny_loadPart_at hC ?_ | with_reducible refine wpAny_onRaise ?_ | with_reducible refine wpAny_map ?_ | wp_step))
theorem call_own_kw (F : ExcBaseFacts B newId initId bmB) (hT : ∀ X : String, bm.contains (.type X) = bmB.contains (.type X)) {fI : Addr}
    (hC : h.get? C = some (excClassObj nm q C N bs bm hdct sn sub ab col dd k0 k1 k2 k3 k5 newId))
    (hi : W.Looks (model prog w) h (typeLookup (.ref C) "__init__") (some (.ref fI))) (hb : ∀ self, W.Looks (model prog w) h (bindSpecial (.ref fI) self) (.ref fI, [self]))
    (hq : codeAny (model prog w) (A.under (.builtin "type.__call__" ⟨[.ref C], [(kn, kv)]⟩)) (.call (.ref fI) ⟨[.ref (h.objs.size + 1)], [(kn, kv)]⟩) (W.InitBack (h.objs.size + 1) R)
      ⟨(h.push (W.kdv_tup [])).push (excO C h.objs.size), g, d, t, os⟩) :
    codeAny (model prog w) A (.call (.ref C) ⟨[], [(kn, kv)]⟩) R ⟨h, g, d, t, os⟩ := by
  have f1 := tc_lookup
  have f2 := tc_bind (.ref C)
  have hTy : (⟨h, g, d, t, os⟩ : Shared).TypeIs (.ref C) "type" := ⟨_, hC, rfl⟩
  refine codeAny_of_tree ?_
  show wpAny _ _ (callAny (.ref C) _) _ _ _
  repeat (any_goals (first | assumption | with_reducible refine wpAny_loadPart_at hC ?_ | wp_step))
  refine ⟨rfl, ?_⟩
  refine codeAny_call_builtin_at (Code.quiet_builtin _ (by decide +kernel)) entry_typeCall (check_type_kw hC (type_call_kw F hT hC hi hb ?_))
  refine codeAny_mono hq fun r s' z => ?_
  rcases r with e | (v | _ | _ | _) <;> exact z
end
end HandSPX
end PySem
namespace MP
open PySem L2 PyProof.Rows NdefX
section
variable {X : Cx} {CX : CXT} {x : Str} {C fI : Addr} {k : Nat} {fd : FuncData} {ps : List Str} {sp : Sp} {B newId initId : String} {bmB : List Value} {e : Expr} {es : List Expr} {ta : TA} {p pos : Pos}
/-- behind the arguments -/
theorem valx_run {pins : List (Addr × Obj)} {σ : L2.St} {H : Hp} {s : Shared} {us : List Value} {vs : List V} {Q : VK} (T : XcC X.K C B newId initId bmB) (iC : PySem.W.findIn X.K (.ref C) "__init__" = some (some (.ref fI))) (tI : PySem.W.typeIn X.K (.ref fI) = some (.type "function"))
    (F1 : FnOk X.prog X.w X.K X.mg X.base CX k fI fd ps sp) (hr : Room (k + 1) X.A) (hb : Binds X.K fd ps []) (hx : Passes CX X (fun _ _ _ => False)) (I1 : Inv X pins σ H s) (r1 : Vals vs us) (hz : vs.length ≤ 1000)
    (q1 : ∀ a, H a = none → sp (.ref a :: vs) (upd H a (exo a C none)) (fun v H2 => v = .non ∧ Q (.ref a) H2) (fun _ _ _ => False)) :
    wpAny (model X.prog X.w) X.A (call (.ref C) us) (EP X pins σ Q) X.xe s := by
  obtain ⟨nm, N, qn, bs, bm, hdct, sn, sub, ab, col, dd, k0, k1, k2, k3, k5, hC, hT⟩ := PySem.W.excInit_of I1.kIn T.ini
  obtain ⟨hp, g, dr, tk, os⟩ := s
  have hsz : hp.objs.size ≤ hp.objs.size + 1 := Nat.le_succ _
  have hn : H (hp.objs.size + 1) = none := I1.hok.fresh hsz
  have hq := q1 (hp.objs.size + 1) hn
  have kk : ∀ b o, hp.get? b = some o → ((hp.push (PySem.W.kdv_tup us)).push (PySem.HandSPX.excO C hp.objs.size)).get? b = some o := fun b o e => Heap.get?_push_of_some _ (Heap.get?_push_of_some _ e)
  have hget : ((hp.push (PySem.W.kdv_tup us)).push (PySem.HandSPX.excO C hp.objs.size)).get? (hp.objs.size + 1) = some (PySem.HandSPX.excO C hp.objs.size) := by heap_get
  have I2 : Inv X pins σ (upd H (hp.objs.size + 1) (exo (hp.objs.size + 1) C none)) ⟨(hp.push (PySem.W.kdv_tup us)).push (PySem.HandSPX.excO C hp.objs.size), g, dr, tk, os⟩ :=
    I1.laid (t' := tk) (a := hp.objs.size + 1) (o := exo (hp.objs.size + 1) C none) (h' := (hp.push (PySem.W.kdv_tup us)).push (PySem.HandSPX.excO C hp.objs.size)) kk hsz (exo_ok hget)
  have r2 : Vals (V.ref (hp.objs.size + 1) :: vs) (Value.ref (hp.objs.size + 1) :: us) := .cons rfl r1
  have hl : (Value.ref (hp.objs.size + 1) :: us ++ []).length = ps.length := by
    have e := r2.length
    rw [F1.len _ _ _ _ hq] at e
    rw [List.append_nil]
    exact e.symm
  have hus : us.length ≤ sizeLine := by
    rw [← Paired.length r1, sizeLine_eq]
    omega
  have hb2 := hb ⟨(hp.push (PySem.W.kdv_tup us)).push (PySem.HandSPX.excO C hp.objs.size), g, dr, tk, os⟩ (Value.ref (hp.objs.size + 1) :: us) I2.kIn hl
  rw [List.append_nil] at hb2
  refine wpAny_call (PySem.HandSPX.call_own T.fb hT hC (PySem.W.looks_findIn I1.kIn iC) (fun self => PySem.W.bind_fn I1.kIn self tI) hus
    (codeAny_mono (F1.run _ X.stack _ _ ⟨Value.ref (hp.objs.size + 1) :: us, []⟩ (Value.ref (hp.objs.size + 1) :: us) _ _ (fun _ _ _ => False) (hr.make C us []) (I2.env0.make C us []) hb2 r2 hq) fun r s' hq' => ?_))
  cases r with
  | error e => exact hx pins σ _ _ e s' I2 hq'
  | ok fl =>
    cases fl with
    | ret u =>
      obtain ⟨v, H', I3, rv, ev, q3⟩ := I2.after hq'
      subst ev
      exact ⟨rv, ⟨V.ref (hp.objs.size + 1), H', I3, rfl, q3⟩⟩
    | next => exact False.elim hq'
    | brk => exact False.elim hq'
    | cont => exact False.elim hq'
/-- by one keyword -/
theorem valk_run {pins : List (Addr × Obj)} {σ : L2.St} {H : Hp} {s : Shared} {kn : Str} {u : Value} {v : V} {Q : VK} (T : XcC X.K C B newId initId bmB) (iC : PySem.W.findIn X.K (.ref C) "__init__" = some (some (.ref fI))) (tI : PySem.W.typeIn X.K (.ref fI) = some (.type "function"))
    (F1 : FnOk X.prog X.w X.K X.mg X.base CX k fI fd ps sp) (hr : Room (k + 1) X.A) (hb : ∀ (s : Shared) (x y : Value), X.K.In s.heap → BindsTo s fd ⟨[x], [(kn, y)]⟩ (ps.zip [x, y])) (hx : Passes CX X (fun _ _ _ => False)) (I1 : Inv X pins σ H s) (r1 : RelV v u)
    (q1 : ∀ a, H a = none → sp [.ref a, v] (upd H a (exo a C none)) (fun v H2 => v = .non ∧ Q (.ref a) H2) (fun _ _ _ => False)) :
    wpAny (model X.prog X.w) X.A (call (.ref C) [] [(kn, u)]) (EP X pins σ Q) X.xe s := by
  obtain ⟨nm, N, qn, bs, bm, hdct, sn, sub, ab, col, dd, k0, k1, k2, k3, k5, hC, hT⟩ := PySem.W.excInit_of I1.kIn T.ini
  obtain ⟨hp, g, dr, tk, os⟩ := s
  have hsz : hp.objs.size ≤ hp.objs.size + 1 := Nat.le_succ _
  have hn : H (hp.objs.size + 1) = none := I1.hok.fresh hsz
  have hq := q1 (hp.objs.size + 1) hn
  have kk : ∀ b o, hp.get? b = some o → ((hp.push (PySem.W.kdv_tup [])).push (PySem.HandSPX.excO C hp.objs.size)).get? b = some o := fun b o e => Heap.get?_push_of_some _ (Heap.get?_push_of_some _ e)
  have hget : ((hp.push (PySem.W.kdv_tup [])).push (PySem.HandSPX.excO C hp.objs.size)).get? (hp.objs.size + 1) = some (PySem.HandSPX.excO C hp.objs.size) := by heap_get
  have I2 : Inv X pins σ (upd H (hp.objs.size + 1) (exo (hp.objs.size + 1) C none)) ⟨(hp.push (PySem.W.kdv_tup [])).push (PySem.HandSPX.excO C hp.objs.size), g, dr, tk, os⟩ :=
    I1.laid (t' := tk) (a := hp.objs.size + 1) (o := exo (hp.objs.size + 1) C none) (h' := (hp.push (PySem.W.kdv_tup [])).push (PySem.HandSPX.excO C hp.objs.size)) kk hsz (exo_ok hget)
  have r2 : Vals [V.ref (hp.objs.size + 1), v] [Value.ref (hp.objs.size + 1), u] := .cons rfl (.cons r1 .nil)
  refine wpAny_call (PySem.HandSPX.call_own_kw T.fb hT hC (PySem.W.looks_findIn I1.kIn iC) (fun self => PySem.W.bind_fn I1.kIn self tI)
    (codeAny_mono (F1.run _ X.stack _ _ ⟨[Value.ref (hp.objs.size + 1)], [(kn, u)]⟩ [Value.ref (hp.objs.size + 1), u] _ _ (fun _ _ _ => False) (hr.make C [] [(kn, u)]) (I2.env0.make C [] [(kn, u)]) (hb _ _ _ I2.kIn) r2 hq) fun r s' hq' => ?_))
  cases r with
  | error e => exact hx pins σ _ _ e s' I2 hq'
  | ok fl =>
    cases fl with
    | ret u =>
      obtain ⟨v, H', I3, rv, ev, q3⟩ := I2.after hq'
      subst ev
      exact ⟨rv, ⟨V.ref (hp.objs.size + 1), H', I3, rfl, q3⟩⟩
    | next => exact False.elim hq'
    | brk => exact False.elim hq'
    | cont => exact False.elim hq'
end
theorem fin_x1 {H : Hp} {a dx C : Addr} {o1 o2 : HO} (ne : dx ≠ a) : upd (upd (upd H a o1) dx o2) a (exo a C (some dx)) = upd (upd H a (exo a C (some dx))) dx o2 := by
  funext b
  by_cases h1 : b = a
  · rw [h1, upd_same, upd_ne (Ne.symm ne), upd_same]
  · rw [upd_ne h1]
    by_cases h2 : b = dx
    · rw [h2, upd_same, upd_same]
    · rw [upd_ne h2, upd_ne h2, upd_ne h1, upd_ne h1]
theorem fin_x2 {H : Hp} {a dx C : Addr} {o1 o2 o3 : HO} (ne : dx ≠ a) : upd (upd (upd (upd H a o1) dx o2) a (exo a C (some dx))) dx o3 = upd (upd H a (exo a C (some dx))) dx o3 := by
  rw [fin_x1 ne, upd_upd]
section
variable {X : Cx} {M : Wd} {T : Tb} {c tf : Nat} {tag : List Nat} {pf : Option Nat} {r : List Addr} {h : Hv} {H : Hp} {s : Fr} {σ : L2.St} {W : WX} {E : XK} {Q : VK} {vs : List Va} {ys : List V}
theorem mk2 (he : Emb M r h H) {a dx : Addr} {fs : List (Nat × Va)} {zs : List (Str × V)} (hn : H a = none) (hd : H dx = none) (ne : dx ≠ a) (ls : RFs M r fs zs) : Gro M r H ((h.new (.exo h.n c (h.n + 1))).new (.exd (h.n + 1) fs)) (r ++ [a, dx]) (upd (upd H a (exo a (M.ca c) (some dx))) dx (exd dx zs)) ∧ RV M (r ++ [a, dx]) (.ref h.n) (.ref a) := by
  have l0 : (r ++ [a, dx])[h.n]? = some a := by
    rw [← he.len, List.getElem?_append_right (Nat.le_refl _), Nat.sub_self]
    rfl
  have l1 : (r ++ [a, dx])[h.n + 1]? = some dx := by
    rw [← he.len, List.getElem?_append_right (Nat.le_succ _), show r.length + 1 - r.length = 1 by omega]
    rfl
  exact ⟨he.alloc2 hn hd ne ⟨a, dx, l0, l1, rfl⟩ ⟨dx, zs, l1, rfl, ls.mono (List.prefix_append _ _)⟩, a, l0, rfl⟩
/-- what the making asks, from the small result -/
theorem mkv_sp (he : Emb M r h H) (z : RVs M r vs ys) (et : T.exc c = some (tf, tag, pf)) (q : Cn M E r H (mkX T c vs h) (RV M) Q) : ys.length ≤ 1000 ∧ ∀ a, H a = none →
    (match pf with
    | none => spX0 (M.ca c) (M.an tf) ⟨tag.toArray⟩
    | some f => spX1 X.K (M.ca c) (M.an tf) ⟨tag.toArray⟩ (M.an f)) (.ref a :: ys) (upd H a (exo a (M.ca c) none))
      (fun (v : V) H2 => v = V.non ∧ Q (.ref a) H2) (fun _ _ _ => False) := by
  unfold mkX excF at q
  rw [et] at q
  cases pf with
  | none =>
    cases vs with
    | cons _ _ => exact q.elim
    | nil =>
      cases z
      refine ⟨Nat.zero_le _, fun a hn => ⟨a, rfl, upd_same, fun dx hdx ne => ⟨rfl, ?_⟩⟩⟩
      rw [upd_ne ne] at hdx
      rw [fin_x1 ne]
      obtain ⟨g, rz⟩ := mk2 (c := c) (fs := [(tf, .str tag)]) (zs := [(M.an tf, V.str ⟨tag.toArray⟩)]) he hn hdx ne (.cons (show (M.an tf : Str) = M.an tf ∧ V.str ⟨tag.toArray⟩ = V.str ⟨tag.toArray⟩ from ⟨rfl, rfl⟩) .nil)
      exact q _ _ _ g rz
  | some f =>
    cases vs with
    | nil => exact q.elim
    | cons v t =>
      cases t with
      | cons _ _ => exact q.elim
      | nil =>
        have q : Cn M E r H (match (match txOk h v with
          | true => some [(f, v), (tf, .str tag)]
          | false => none) with
          | some fs => .ok (.ref h.n) ((h.new (.exo h.n c (h.n + 1))).new (.exd (h.n + 1) fs))
          | none => .no) (RV M) Q := q
        cases e : txOk h v with
        | false =>
          rw [e] at q
          exact q.elim
        | true =>
          rw [e] at q
          cases z with
          | @cons _ y _ _ zy zt =>
            cases zt
            refine ⟨by simp, fun a hn => ⟨a, y, rfl, txOk_ok he (fun p o q => by rw [upd_ne (ne_of_none q hn)]; exact q) zy e, upd_same, fun dx hdx ne => ⟨rfl, ?_⟩⟩⟩
            rw [upd_ne ne] at hdx
            rw [fin_x2 ne]
            obtain ⟨g, rz⟩ := mk2 (c := c) (fs := [(f, v), (tf, .str tag)]) (zs := [(M.an f, y), (M.an tf, V.str ⟨tag.toArray⟩)]) he hn hdx ne (.cons ⟨rfl, zy⟩ (.cons (show (M.an tf : Str) = M.an tf ∧ V.str ⟨tag.toArray⟩ = V.str ⟨tag.toArray⟩ from ⟨rfl, rfl⟩) .nil))
            exact q _ _ _ g rz
variable {x : Str} {p pos pos0 : Pos} {e : Expr} {es : List Expr} {ga : Fr → Hv → Rs (List Va)}
theorem se_mkx (O : XOk X M c tf tag pf) (et : T.exc c = some (tf, tag, pf)) (hr : Room 2 X.A) (tk : Takes X W) (hg : Gl X x) (hm : X.mg x = some (.ref (M.ca c))) (hd : (x == ("__debug__" : Str)) = false) (ha : PA X (e :: es) (tFA M W ga))
    (hst : starEach (e :: es) X.env = (false, eval e X.env) :: starEach es X.env) (hpl : (backTo pos (starEach es X.env)).any (·.1) = false) :
    PE X (.Call (.Name x p) (e :: es) [] pos) (tF M W fun s h => (ga s h).bind fun vs h1 => mkX T c vs h1) := by
  obtain ⟨B, newId, initId, bmB, fI, fd, ps, Tc, iC, tI, hb, F1⟩ := O
  refine ⟨fun pins s σ H Q I ⟨r, sm, h, hs, he, q⟩ => ?_⟩
  refine wpAny_Call_Name_kw (ld_glob I hg hm ?_ hd)
  have run := ha.run pos pins s σ H (fun ys H1 => ∃ r1 vs h1, Emb M r1 h1 H1 ∧ RVs M r1 vs ys ∧ Cn M (XAt W σ) r1 H1 (mkX T c vs h1) (RV M) Q) I (tFA.step hs he q fun r1 v h1 y H1 g1 hs1 he1 z1 q1 => ⟨r1, v, h1, he1, z1, q1⟩)
  refine PySem.W.callWith_K (h₀ := X.base) I.ok.mod.kin Tc.kC (thn run fun us s1 ⟨ys, H1, I1, r1, r2, vs, h1, he1, z1, q1⟩ => ⟨I1.kIn, ?_⟩) hst hpl
  obtain ⟨l, k⟩ := mkv_sp (X := X) he1 z1 et q1
  exact valx_run Tc iC tI F1 hr hb (passes_call tk fun _ _ _ _ z => z.elim) I1 r1 l k
theorem se_mkx0 (O : XOk X M c tf tag pf) (et : T.exc c = some (tf, tag, pf)) (hr : Room 2 X.A) (tk : Takes X W) (hg : Gl X x) (hm : X.mg x = some (.ref (M.ca c))) (hd : (x == ("__debug__" : Str)) = false) :
    PE X (.Call (.Name x p) [] [] pos) (tF M W fun s h => mkX T c [] h) := by
  obtain ⟨B, newId, initId, bmB, fI, fd, ps, Tc, iC, tI, hb, F1⟩ := O
  refine ⟨fun pins s σ H Q I ⟨r, sm, h, hs, he, q⟩ => ?_⟩
  refine wpAny_Call_Name_kw (ld_glob I hg hm ?_ hd)
  obtain ⟨l, k⟩ := mkv_sp (X := X) he .nil et q
  exact PySem.W.callWith_K0 I.kIn Tc.kC (valx_run (us := []) (vs := []) Tc iC tI F1 hr hb (passes_call tk fun _ _ _ _ z => z.elim) I .nil l k)
/-- the one keyword's name -/
def XKey (X : Cx) (M : Wd) (c tf : Nat) (tag : List Nat) (pf : Option Nat) (kn : Str) : Prop := ∃ (B newId initId : String) (bmB : List Value) (fI : Addr) (fd : FuncData) (ps : List Str), XcC X.K (M.ca c) B newId initId bmB ∧
  PySem.W.findIn X.K (.ref (M.ca c)) "__init__" = some (some (.ref fI)) ∧ PySem.W.typeIn X.K (.ref fI) = some (.type "function") ∧ (∀ (s : Shared) (x y : Value), X.K.In s.heap → BindsTo s fd ⟨[x], [(kn, y)]⟩ (ps.zip [x, y])) ∧
  FnOk X.prog X.w X.K X.mg X.base (L2.CX X.prog X.w) 1 fI fd ps (match pf with
    | none => spX0 (M.ca c) (M.an tf) ⟨tag.toArray⟩
    | some f => spX1 X.K (M.ca c) (M.an tf) ⟨tag.toArray⟩ (M.an f))
theorem se_mkk {kn : Str} {g : Fr → Hv → Rs Va} (O : XKey X M c tf tag pf kn) (et : T.exc c = some (tf, tag, pf)) (hr : Room 2 X.A) (tk : Takes X W) (hg : Gl X x) (hm : X.mg x = some (.ref (M.ca c))) (hd : (x == ("__debug__" : Str)) = false) (ha : PE X e (tF M W g)) {kp : Pos} :
    PE X (.Call (.Name x p) [] [⟨some kn, e, kp⟩] pos) (tF M W fun s h => (g s h).bind fun v h1 => mkX T c [v] h1) := by
  obtain ⟨B, newId, initId, bmB, fI, fd, ps, Tc, iC, tI, hb, F1⟩ := O
  refine ⟨fun pins s σ H Q I ⟨r, sm, h, hs, he, q⟩ => ?_⟩
  refine wpAny_Call_Name_kw (ld_glob I hg hm ?_ hd)
  have pk : PK X [⟨some kn, e, kp⟩] (tCons (tF M W g) tNil) := pk_cons ha pk_nil
  refine PySem.W.callWith_KW0 (h₀ := X.base) I.ok.mod.kin Tc.kC (by rfl) ?_ (by rfl)
  refine thn (pk.run pos pins s σ H (fun ys H1 => ∃ r1 v y h1, ys = [y] ∧ Emb M r1 h1 H1 ∧ RV M r1 v y ∧ Cn M (XAt W σ) r1 H1 (mkX T c [v] h1) (RV M) Q) I (tF.step hs he q fun r1 v h1 y H1 g1 hs1 he1 z1 q1 => ⟨r1, v, y, h1, rfl, he1, z1, q1⟩)) fun ws s1 ⟨zs, H1, I1, rz, r1, v, y, h1, ey, he1, z1, q1⟩ => ⟨I1.kIn, ?_⟩
  subst ey
  obtain ⟨l, k⟩ := mkv_sp (X := X) he1 (.cons z1 .nil) et q1
  cases rz with
  | @cons _ u _ us rv rt =>
    cases rt
    exact valk_run Tc iC tI F1 hr hb (passes_call tk fun _ _ _ _ z => z.elim) I1 rv k
end
end MP
set_option linter.all false
set_option maxRecDepth 100000
set_option maxHeartbeats 4000000
/-! {**d, k: v}: a dict poured into a new one. -/
namespace MP
open PySem L2
section
variable {prog : Program} {w : World} {K : Type} [DecidableEq K] {knd : KeyKind prog w K} {A : Around} {E : Value → Shared → Prop} {s : Shared}
/-- an entry of a known hash laid down -/
theorem dput_ok {d : Addr} {kv : List (K × Value)} {k : K} {key v : Value} {Q : Unit → Shared → Prop} (isk : knd.is k key = true) (dd : s.heap.DictOf knd d kv) (sz : kv.length ≤ sizeLine)
    (q : ∀ h', h'.DictOf knd d (stored kv k v) → Heap.SameBut d s.heap h' → Q () { s with heap := h' }) : wpAny (model prog w) A (dictPut d (knd.hash k) key v) Q E s := by
  obtain ⟨ob, es, ep, o1, o2, o3, o4, o5, o6⟩ := dd
  have l1 : es.toList.length = es.size := Array.length_toList
  have l2 := o5.length
  have at_ : (es.findIdx? fun e => knd.is k e.key) = kv.findIdx? fun p => decide (p.1 = k) := by
    rw [← o5.findIdx k]
    obtain ⟨l⟩ := es
    simp
  refine wpAny_bind (wpAny_dictFind_of isk o1 o3 o4 ?_)
  cases hi : es.findIdx? fun e => knd.is k e.key with
  | some i =>
    have there := any_of_findIdx_some (at_.symm.trans hi)
    refine wpAny_updateDict o1 o3 (q _ ⟨_, _, ep, Heap.get?_update_self _ o1 (Obj.isFreed_of_dict (Obj.data_mapDict o3 _)), o2.mapDict _, Obj.data_mapDict o3 _, o4.modify _ _, ?_, ?_⟩ (Heap.SameBut.update ..))
    · rw [stored, if_pos there]
      obtain ⟨l⟩ := es
      have z := o5.modify o6 (i := i) (by simpa using hi) v
      simpa using z
    · rw [stored, if_pos there, keys_map_store]
      exact o6
  | none =>
    have away : k ∉ kv.map Prod.fst := not_mem_of_findIdx_none (at_.symm.trans hi)
    have no : ¬ (kv.any fun p => decide (p.1 = k)) = true := fun z => by
      obtain ⟨p, hp, e⟩ := List.any_eq_true.mp z
      exact away (List.mem_map.mpr ⟨p, hp, of_decide_eq_true e⟩)
    refine wpAny_updateDictKeys (hz := by omega) o1 o3 (q _ ⟨_, _, ep + 1, Heap.get?_update_self _ o1 (Obj.isFreed_of_dict (Obj.data_mapDictKeys o3 _)), o2.mapDictKeys _, Obj.data_mapDictKeys o3 _, o4.push isk _, ?_, ?_⟩ (Heap.SameBut.update ..))
    · rw [stored, if_neg no]
      obtain ⟨l⟩ := es
      have z := o5.append isk (knd.hash k) v
      simpa using z
    · rw [stored, if_neg no, List.map_append]
      refine List.nodup_append.mpr ⟨o6, by simp, fun x hx y hy => ?_⟩
      rw [List.map_cons, List.map_nil, List.mem_singleton] at hy
      have hy : y = k := hy
      subst hy
      exact fun e => away (e ▸ hx)
/-- a whole dict poured into another -/
theorem merge_ok {d a : Addr} {acc more : List (K × Value)} {Q : Unit → Shared → Prop} (hd : s.heap.DictOf knd d acc) (ha : s.heap.DictOf knd a more) (hne : d ≠ a) (hsys : (a == sysModules) = false) (hsz : acc.length + more.length ≤ sizeLine)
    (hQ : ∀ h', h'.DictOf knd d (merged acc more) → Heap.SameBut d s.heap h' → Q () { s with heap := h' }) : wpAny (model prog w) A (mergeMapping d (.ref a) false) Q E s := by
  have hT := ha.typeIs
  obtain ⟨od, esd, epd, d1, d2, d3, d4, d5, d6⟩ := id hd
  obtain ⟨oa, esa, epa, a1, a2, a3, a4, a5, a6⟩ := id ha
  have len : esa.size = more.length := by rw [← a5.length, Array.length_toList]
  unfold mergeMapping
  refine wpAny_bind (wpAny_isInstance hT isSubtype_dict_dict ?_)
  rw [if_pos rfl]
  refine wpAny_bind (wpAny_specialOf hT F.slot_dict_iter.lookup (wpAny_bind (wpAny_pure ?_)))
  simp only [beq_self_eq_true, hsys, Bool.false_eq_true, if_false]
  have rest : wpAny (model prog w) A (do
      let es ← dictEntries a
      let epoch ← dictEpoch a
      forIn (List.range es.size) PUnit.unit fun i (_ : PUnit) => (do
        let l ← dictEntries a
        match l[i]? with
        | some e => do
          holding [e.key, e.val] (dictPut d e.hash e.key e.val)
          let ep ← dictEpoch a
          if (ep != epoch) = true then do
            (unsupported "dict.changed-during-merge" : Sem PUnit)
            pure (ForInStep.yield PUnit.unit)
          else pure (ForInStep.yield PUnit.unit)
        | _ => do
          (unsupported "dict.changed-during-merge" : Sem PUnit)
          pure (ForInStep.yield PUnit.unit) : Sem (ForInStep PUnit))
      pure ()) Q E s := by
    refine wpAny_bind (wpAny_dictEntries a1 a3 (wpAny_bind (wpAny_dictEpoch a1 a3 (wpAny_bind ?_))))
    rw [List.range_eq_range']
    refine wpAny_forIn_list _ (fun r _ s' => ∃ i h', i ≤ esa.size ∧ r = List.range' i (esa.size - i) ∧ s' = { s with heap := h' } ∧ h'.get? a = some oa ∧ Heap.SameBut d s.heap h' ∧ h'.DictOf knd d (merged acc (more.take i))) _ ?_ ?_ _ _
      ⟨0, s.heap, Nat.zero_le _, by simp, rfl, a1, Heap.SameBut.refl _ _, by simpa [merged] using hd⟩
    · rintro x r b s' ⟨i, h', hi, hr, rfl, b1, b2, b3⟩
      have lt : i < esa.size := Nat.lt_of_not_le fun z => by
        rw [Nat.sub_eq_zero_of_le z] at hr
        cases hr
      rw [show esa.size - i = (esa.size - (i + 1)) + 1 by omega, List.range'_succ] at hr
      obtain ⟨rfl, rfl⟩ : x = i ∧ r = _ := List.cons.inj hr
      have lm : x < more.length := len ▸ lt
      have e1 : more[x]? = some (more[x]'lm) := List.getElem?_eq_getElem lm
      obtain ⟨k1, v1⟩ := a5.get? (e := esa[x]) (by simp [lt]) e1
      obtain ⟨k', k2, k3⟩ := a4 esa[x] (Array.getElem_mem lt)
      have ek : k' = (more[x]'lm).1 := knd.inj _ _ _ k2 k1
      refine wpAny_bind (wpAny_dictEntries b1 a3 ?_)
      rw [Array.getElem?_eq_getElem lt]
      have e2 : esa[x].hash = knd.hash (more[x]'lm).1 := by rw [k3, ek]
      have sz : (merged acc (more.take x)).length ≤ sizeLine := by
        have z1 := merged_length_le acc (more.take x)
        rw [List.length_take] at z1
        omega
      show wpAny (model prog w) A (holding [esa[x].key, esa[x].val] (dictPut d esa[x].hash esa[x].key esa[x].val) >>= _) _ _ _
      rw [e2]
      refine wpAny_bind (wpAny_holding (dput_ok (s := { s with heap := h' }) k1 b3 sz fun h2 c1 c2 => ?_))
      have b4 : h2.get? a = some oa := (c2.2 a (Ne.symm hne)).trans b1
      refine wpAny_bind (wpAny_dictEpoch b4 a3 ?_)
      rw [if_neg (by simp)]
      refine wpAny_pure ⟨x + 1, h2, lt, rfl, rfl, b4, b2.trans c2, ?_⟩
      rw [merged_take_succ acc more x _ e1]
      have v2 : esa[x].val = (more[x]'lm).2 := v1
      rw [← v2]
      exact c1
    · rintro b s' ⟨i, h', hi, hr, rfl, b1, b2, b3⟩
      have hin : more.length ≤ i := by
        rcases Nat.lt_or_ge i esa.size with z | z
        · rw [show esa.size - i = (esa.size - (i + 1)) + 1 by omega, List.range'_succ] at hr
          cases hr
        · omega
      rw [List.take_of_length_le hin] at b3
      exact wpAny_pure (hQ h' b3 b2)
  refine wpAny_bind (wpAny_dictEntries d1 d3 ?_)
  split
  · refine wpAny_bind (wpAny_dictEntries a1 a3 (wpAny_bind ?_))
    rw [← Array.forIn_toList, forIn_yield_id PUnit.unit fun e he c => ?_]
    · exact wpAny_pure rest
    · obtain ⟨k, hk, _⟩ := a4 e (Array.mem_toList_iff.mp he)
      have z := knd.byValue k _ hk
      cases hv : e.key with
      | ref b =>
        rw [hv] at z
        cases z
      | _ => rfl
  · exact rest
end
def tDStar (ta tk tv : TE) : TE := fun σ H Q => ∀ d, H d = none → ta σ (upd H d (.dK [])) fun x H1 => ∃ a kvs, x = .ref a ∧ Rd H1 a (.dK kvs) ∧ d ≠ a ∧ H1 d = some (.dK []) ∧ kvs.length + 1 ≤ sizeLine ∧
  ∀ p, upd H1 d (.dK kvs) p = none → tk σ (upd (upd H1 d (.dK kvs)) p (.dK [])) fun y H2 => tv σ H2 fun z H3 => ∃ kk, y = kV kk ∧ H3 p = some (.dK []) ∧ H3 d = some (.dK kvs) ∧ d ≠ p ∧ Q (.ref d) (upd (upd H3 p (.dK [(kk, z)])) d (.dK (L2.putK kvs kk z)))
/-- a dict of a known kind poured, in the layer's heap -/
theorem pour {X : Cx} {pins : List (Addr × Obj)} {σ : L2.St} {H : Hp} {s : Shared} {d a : Addr} {acc more : List (Key × V)} {A : Around} {E : Value → Shared → Prop} {Q : Unit → Shared → Prop} (I : Inv X pins σ H s) (hd : H d = some (.dK acc)) (ha : Rd H a (.dK more)) (hne : d ≠ a) (hz : acc.length + more.length ≤ sizeLine)
    (q : ∀ s', Inv X pins σ (upd H d (.dK (mergeK acc more))) s' → Q () s') : wpAny (model X.prog X.w) A (mergeMapping d (.ref a) false) Q E s := by
  obtain ⟨_, y1, v1, r1, d1⟩ := dk_of I.hok hd
  obtain ⟨_, y2, v2, r2, d2⟩ := dk_rd I.hok ha
  refine merge_ok d1 d2 hne y2 (by rw [← r1.length, ← r2.length]; exact hz) fun h' m sb => q _ ?_
  have he : ∃ o, h'.get? d = some o := let ⟨o, _, _, ho, _⟩ := m; ⟨o, ho⟩
  have lz := length_mergeK more acc
  exact d_write (t' := s.toks) I (by rw [hd]; exact True.intro) sb he (dk_new (by omega) y1 (r2.merge r1) m)
theorem mergeK_nil {P : Program} {w : World} {h : Heap} {a : Addr} {kvs : List (Key × V)} {vs : List (Key × Value)} (r : KV kvs vs) (dd : h.DictOf (mixKind P w) a vs) : mergeK [] kvs = kvs := by
  obtain ⟨_, _, _, _, _, _, _, _, nd⟩ := dd
  have e : kvs.map (·.1) = vs.map (·.1) := by
    clear nd
    unfold KV at r
    have go : ∀ {l : List (Key × V)} {m : List (Key × Value)}, Paired (fun p q => p.1 = q.1 ∧ RelV p.2 q.2) l m → l.map (·.1) = m.map (·.1) := fun {l m} r => by
      induction r with
      | nil => rfl
      | cons z t ih => rw [List.map_cons, List.map_cons, z.1, ih]
    exact go r
  rw [← e] at nd
  have go : ∀ (l acc : List (Key × V)), ((acc ++ l).map (·.1)).Nodup → mergeK acc l = acc ++ l := fun l => by
    induction l with
    | nil => exact fun acc _ => (List.append_nil acc).symm
    | cons p l ih =>
      intro acc hn
      have hf : L2.putK acc p.1 p.2 = acc ++ [(p.1, p.2)] := by
        unfold L2.putK
        rw [if_neg fun z => ?_]
        obtain ⟨x, hx, ex⟩ := List.any_eq_true.mp z
        rw [List.map_append, List.map_cons] at hn
        exact (List.nodup_append.mp hn).2.2 x.1 (List.mem_map_of_mem hx) p.1 (List.mem_cons_self ..) (of_decide_eq_true ex)
      show mergeK (L2.putK acc p.1 p.2) l = _
      rw [hf, ih _ (by simpa using hn)]
      simp
  exact go kvs [] nd
theorem pe_dstar {X : Cx} {e k v : Expr} {pos : Pos} {ta tk tv : TE} (he : PE X e ta) (hk : PE X k tk) (hv : PE X v tv) : PE X (.Dict [none, some k] [e, v] pos) (tDStar ta tk tv) := by
  refine ⟨fun pins s σ H Q I h => ?_⟩
  rw [arm_eval_Dict]
  refine wpAny_bind (wpAny_standAt ?_)
  show wpAny _ _ (dictDisplay [(none, do let x ← eval e X.env; standAt pos; pure x), (some (eval k X.env), do let x ← eval v X.env; standAt pos; pure x)]) _ _ _
  unfold dictDisplay
  simp only [List.forIn_cons, List.forIn_nil, List.isEmpty_nil, if_true]
  refine wpAny_bind (wpAny_bind (wpAny_bind (wpAny_pure (wpAny_bind (wpAny_alloc ?_)))))
  have I1 := I.laid (a := s.heap.objs.size) (o := .dK []) (h' := s.heap.push { cls := .type "dict", data := .dict #[] }) (t' := s.toks) (fun _ _ q => Heap.get?_push_of_some _ q) (Nat.le_refl _) (dk_empty s.heap I.big)
  refine wpAny_bind (wpAny_holding (wpAny_bind (thn (he.run pins _ σ _ _ I1 (h _ (I.hok.fresh (Nat.le_refl _)))) fun u s1 ⟨x, H1, I2, rx, a, kvs, ex, ea, hne, hd, hz, q⟩ => wpAny_bind (wpAny_standAt (wpAny_pure ?_)))))
  subst ex
  obtain rfl : u = Value.ref a := rx
  have en : mergeK [] kvs = kvs := by
    obtain ⟨_, _, v2, r2, d2⟩ := dk_rd I2.hok ea
    exact mergeK_nil r2 d2
  refine wpAny_bind (wpAny_onRaise (wpAny_tryCatch (wpAny_onRaise (wpAny_holding (pour I2 hd ea hne (by rw [List.length_nil]; omega) fun s2 I3 => ?_)))))
  rw [en] at I3
  refine wpAny_pure ?_
  refine wpAny_bind (wpAny_pure ?_)
  refine wpAny_pure ?_
  show wpAny _ _ (do
    let m ← (do
      let sub ← holding [Value.ref s.heap.objs.size] (subDict [(eval k X.env, do let x ← eval v X.env; standAt pos; pure x)])
      (holding [Value.ref s.heap.objs.size, Value.ref sub] (mergeMapping s.heap.objs.size (Value.ref sub) false)).onRaise fun x => do let _ ← holding [Value.ref s.heap.objs.size, x] (runValue (Code.builtin "proto.let_go" { }))
      pure (some s.heap.objs.size))
    match m with
      | some d => pure (Value.ref d)
      | none => newDict) _ _ _
  have q := q s2.heap.objs.size (I3.hok.fresh (Nat.le_refl _))
  have I4 := I3.laid (a := s2.heap.objs.size) (o := .dK []) (h' := s2.heap.push { cls := .type "dict", data := .dict #[] }) (t' := s2.toks) (fun _ _ q => Heap.get?_push_of_some _ q) (Nat.le_refl _) (dk_empty s2.heap I3.big)
  refine wpAny_bind (wpAny_bind (wpAny_holding (wpAny_subDict (knd := mixKind X.prog X.w) (Nat.succ_le_succ (Nat.zero_le _)) ?_)))
  refine evalPairs_cons (thn (hk.run pins _ σ _ _ I4 q) fun ku s3 ⟨y, H2, I5, ry, q2⟩ => wpAny_bind (thn (hv.run pins _ σ _ _ I5 q2) fun vu s4 ⟨z, H3, I6, rz, kk, ey, hp, hd3, hdp, q3⟩ => wpAny_bind (wpAny_standAt (wpAny_pure (evalPairs_nil ?_)))))
  subst ey
  obtain ⟨_, y1, v1, r1, dd⟩ := dk_of I6.hok hp
  cases r1
  refine ⟨[(kk, vu)], ⟨kV_is ry, rfl, True.intro⟩, dd, fun h' dd' sb => ?_⟩
  have he : ∃ o, h'.get? s2.heap.objs.size = some o := let ⟨o, _, _, ho, _⟩ := dd'; ⟨o, ho⟩
  have I7 := d_write (t' := s4.toks + 1) (ob := .dK [(kk, z)]) I6 (by rw [hp]; exact True.intro) sb he (dk_new (by show 1 ≤ _; rw [sizeLine_eq]; decide) y1 (.cons ⟨rfl, rz⟩ .nil) dd')
  have n1 : s.heap.objs.size ≠ s2.heap.objs.size := hdp
  refine wpAny_bind (wpAny_onRaise (wpAny_holding (pour (acc := kvs) (more := [(kk, z)]) I7 (by rw [upd_ne n1]; exact hd3) (Or.inl upd_same) hdp hz fun s5 I8 => ?_)))
  exact wpAny_pure (wpAny_pure ⟨.ref s.heap.objs.size, _, I8, rfl, q3⟩)
end MP
set_option linter.all false
set_option maxRecDepth 100000
set_option maxHeartbeats 4000000
/-! Dicts made: {}, {**d, k: v}, comprehensions; a dict locked while an expression runs. -/
namespace MP
open PySem L2
section
variable {X : Cx} {M : Wd} {W : WX} {T : Tb} {r r' : List Addr} {h h' : Hv} {H H' : Hp} {K : PySem.W.Frag} {D D' : Ends} {tg : Expr}
theorem se_dlt {pos : Pos} : PE X (.Dict [] [] pos) (tF M W fun _ h => eDlt [] h) :=
  PE.imp pe_dnewK fun σ H Q ⟨r, s, h, hs, he, q⟩ => fun p hp => Cn.new q he hp ⟨[], rfl, .nil⟩
theorem putK_ok {kvs : List (Va × Va)} {ys : List (Key × V)} {u v : Va} {l : Key} {x : V} (p : Paired (RD (M := M) r) kvs ys) (z : RKt M u l) (mx : ∀ p ∈ kvs, (isTokV p.1 = true → isStrV u = false) ∧ (isStrV p.1 = true → isTokV u = false)) (zv : RV M r v x) :
    Paired (RD (M := M) r) (putK u v kvs) (L2.putK ys l x) := by
  have an : (kvs.any fun p => eqK p.1 u) = ys.any fun p => decide (p.1 = l) := by
    induction p with
    | nil => rfl
    | cons a t ih =>
      rw [List.any_cons, List.any_cons, ih fun p hp => mx p (List.mem_cons_of_mem _ hp), eqKt_ok a.1 z (mx _ (List.mem_cons_self ..)).1 (mx _ (List.mem_cons_self ..)).2]
  unfold putK L2.putK
  rw [an]
  cases e : ys.any fun p => decide (p.1 = l) with
  | false =>
    rw [if_neg (by decide)]
    exact pApp p (.cons ⟨z, zv⟩ .nil)
  | true =>
    rw [if_pos rfl]
    show Paired _ (kvs.map _) (ys.map _)
    clear an e
    induction p with
    | nil => exact .nil
    | cons a t ih =>
      refine .cons ?_ (ih fun p hp => mx p (List.mem_cons_of_mem _ hp))
      dsimp only
      rw [eqKt_ok a.1 z (mx _ (List.mem_cons_self ..)).1 (mx _ (List.mem_cons_self ..)).2]
      rename_i a0 b0 _ _
      by_cases q : b0.1 = l
      · rw [if_pos q, decide_eq_true q]
        exact ⟨a.1, zv⟩
      · rw [if_neg q, decide_eq_false q]
        exact a
theorem dctAt_ok (he : Emb M r h H) {v : Va} {x : V} {kvs : List (Va × Va)} (z : RV M r v x) (e : dctAt h v = some kvs) : ∃ p ys, x = .ref p ∧ p ∈ r ∧ Rd H p (.dK ys) ∧ Paired (RD (M := M) r) kvs ys := by
  cases v with
  | ref a =>
    have e : (match h.rd a with
      | some (.dct kvs) => some kvs
      | _ => none) = some kvs := e
    split at e
    · rename_i k q
      cases e
      obtain ⟨p, ys, rfl, hp, hl, ls⟩ := rd_dct he q z
      exact ⟨p, ys, rfl, List.mem_of_getElem? hp, hl, ls⟩
    · cases e
  | _ => cases e
/-- the rest of a reading, its base kept -/
theorem Cn.split {α β γ δ : Type} {E : XK} {R : List Addr → α → β → Prop} {R2 : List Addr → γ → δ → Prop} {x : Rs α} {k : α → Hv → Rs γ} {Q : δ → Hp → Prop} {h0 : Hv} {r1 : List Addr} {H1 : Hp} (g : Gro M r H h0 r1 H1) (q : Cn M E r H (x.bind k) R2 Q) :
    Cn M E r1 H1 x R fun y H2 => ∃ r2 v h2, x = .ok v h2 ∧ Gro M r1 H1 h2 r2 H2 ∧ R r2 v y := by
  cases x with
  | ok v h => exact fun r2 y H2 g2 z => ⟨r2, v, h, rfl, g2, z⟩
  | ex c fs h => exact q.later g
  | no => exact q
/-- what the base does not hold may change -/
theorem Gro.out {d : Addr} {u : HO} (g : Gro M r H h' r' H') (hd : ∀ v, H d = some v → ∃ ps, v = .tbl ps) (hr : d ∉ r') (nt : ∀ ps, H' d ≠ some (.tbl ps)) (nx : ∀ f, H' d ≠ some (.ext f)) : Gro M r H h' r' (upd H' d u) where
  pre := g.pre
  emb := ⟨g.emb.len, g.emb.nd, fun q hq => by
    obtain ⟨v, e, nt⟩ := g.emb.tr q hq
    exact ⟨v, (upd_ne fun c : q = d => hr (c ▸ hq)).trans e, nt⟩, fun a o e => by
    obtain ⟨p, v, e1, e2, z⟩ := g.emb.at_ a o e
    exact ⟨p, v, e1, (upd_ne fun c : p = d => hr (c ▸ List.mem_of_getElem? e1)).trans e2, z⟩, tabs_keep g.emb.tab fun b o e k => (upd_ne fun c => by
    subst c
    rcases k with ⟨ps, k⟩ | ⟨f, k⟩
    · exact nt ps (by rw [e, k])
    · exact nx f (by rw [e, k])).trans e⟩
  new := g.new
  fre := fun p v e hn ht => (upd_ne fun c => by
    subst c
    obtain ⟨ps, k⟩ := hd v e
    exact ht ps k).trans (g.fre p v e hn ht)
  frz := fun p ob v e => (upd_ne fun c => by
    subst c
    obtain ⟨ps, k⟩ := hd _ e
    cases k).trans (g.frz p ob v e)
  tab := fun t => tabs_keep (g.tab t) fun b o e k => (upd_ne fun c => by
    subst c
    rcases k with ⟨ps, k⟩ | ⟨f, k⟩
    · exact nt ps (by rw [e, k])
    · exact nx f (by rw [e, k])).trans e
/-- .. and be taken in -/
theorem Gro.take {d : Addr} {u : HO} {o : Ob} (g : Gro M r H h' r' (upd H' d u)) (hd : H d = none) (hr : d ∉ r') (nt : ∀ ps, u ≠ .tbl ps) (nx : ∀ f, u ≠ .ext f) (z : RO M (r' ++ [d]) o u) : Gro M r H (h'.new o) (r' ++ [d]) (upd H' d u) where
  pre := g.pre.trans (List.prefix_append _ _)
  emb := by
    have e0 : Emb M r' h' (fun q => if q = d then none else H' q) := ⟨g.emb.len, g.emb.nd, fun q hq => by
      obtain ⟨v, e, nt'⟩ := g.emb.tr q hq
      have c : q ≠ d := fun c => hr (c ▸ hq)
      rw [upd_ne c] at e
      exact ⟨v, (if_neg c).trans e, nt'⟩, fun a ob e => by
      obtain ⟨p, v, e1, e2, z⟩ := g.emb.at_ a ob e
      have c : p ≠ d := fun c => hr (c ▸ List.mem_of_getElem? e1)
      rw [upd_ne c] at e2
      exact ⟨p, v, e1, (if_neg c).trans e2, z⟩, tabs_keep g.emb.tab fun b ob e k => by
      have c : b ≠ d := fun c => by
        rw [c, upd_same] at e
        rcases k with ⟨ps, k⟩ | ⟨f, k⟩
        · exact nt ps ((Option.some.inj e).trans k)
        · exact nx f ((Option.some.inj e).trans k)
      rw [upd_ne c] at e
      exact (if_neg c).trans e⟩
    have e1 := (e0.alloc (p := d) (if_pos rfl) z).emb
    have e2 : upd (fun q => if q = d then none else H' q) d u = upd H' d u := by
      funext q
      by_cases c : q = d
      · rw [c, upd_same, upd_same]
      · rw [upd_ne c, upd_ne c, if_neg c]
    rw [e2] at e1
    exact e1
  new := fun p hp hn => by
    rcases List.mem_append.mp hp with k | k
    · exact g.new p k hn
    · rw [List.mem_singleton.mp k]
      intro u e
      rw [hd] at e
      cases e
  fre := g.fre
  frz := g.frz
  tab := g.tab
theorem se_dst {e k v : Expr} {pos : Pos} {fa fk fv : Fr → Hv → Rs Va} (he : PE X e (tF M W fa)) (hk : PE X k (tF M W fk)) (hv : PE X v (tF M W fv)) : PE X (.Dict [none, some k] [e, v] pos) (tF M W fun s h => (fa s h).bind fun x h1 => match dctAt h1 x with
      | some kvs => gd (Nat.blt kvs.length Bnd) ((fk s h1).bind fun y h2 => (fv s h2).bind fun z h3 => gd (mixK y kvs) (newOb (.dct (putK y z kvs)) h3))
      | none => .no) :=
  PE.imp (pe_dstar he hk hv) fun σ H Q ⟨r, s, h, hs, he, q⟩ d hd => by
    have g0 := he.laid (u := .dK []) hd
    refine ⟨r, s, h, hs, g0.emb, (Cn.split (R := RV M) g0 q).mono fun x H1 ⟨r1, v1, h1, ev1, g1, z1⟩ => ?_⟩
    have q : Cn M (XAt W σ) r H ((fa s h).bind fun x h1 => match dctAt h1 x with
      | some kvs => gd (Nat.blt kvs.length Bnd) ((fk s h1).bind fun y h2 => (fv s h2).bind fun z h3 => gd (mixK y kvs) (newOb (.dct (putK y z kvs)) h3))
      | none => .no) (RV M) Q := q
    rw [ev1] at q
    have q : Cn M (XAt W σ) r H (match dctAt h1 v1 with
      | some kvs => gd (Nat.blt kvs.length Bnd) ((fk s h1).bind fun y h2 => (fv s h2).bind fun z h3 => gd (mixK y kvs) (newOb (.dct (putK y z kvs)) h3))
      | none => .no) (RV M) Q := q
    cases ed : dctAt h1 v1 with
    | none =>
      rw [ed] at q
      exact q.elim
    | some kvs =>
      rw [ed] at q
      have q : Cn M (XAt W σ) r H (gd (Nat.blt kvs.length Bnd) ((fk s h1).bind fun y h2 => (fv s h2).bind fun z h3 => gd (mixK y kvs) (newOb (.dct (putK y z kvs)) h3))) (RV M) Q := q
      obtain ⟨hb0, q⟩ := q.gd
      obtain ⟨a, ys, rfl, ha, hl, ls⟩ := dctAt_ok g1.emb z1 ed
      have dr : d ∉ r := fun z => by
        obtain ⟨u, e, _⟩ := he.tr d z
        rw [hd] at e
        cases e
      have dr1 : d ∉ r1 := fun z => by
        obtain ⟨ps, k⟩ := g1.new d z dr _ upd_same
        cases k
      have hd1 : H1 d = some (.dK []) := g1.fre d _ upd_same dr fun ps => nofun
      refine ⟨a, ys, rfl, hl, fun c => dr1 (c ▸ ha), hd1, ?_, fun p hp => ?_⟩
      · rw [← ls.length]
        exact bnd_lt hb0
      · have hd' : ∀ v, H d = some v → ∃ ps, v = .tbl ps := fun v e => by rw [hd] at e; cases e
        have G1 : Gro M r H h1 r1 (upd H1 d (.dK ys)) := (g0.trans g1).out hd' dr1 (by rw [hd1]; exact fun _ => nofun) (by rw [hd1]; exact fun _ => nofun)
        have hpd : p ≠ d := fun c => by
          rw [c, upd_same] at hp
          cases hp
        have pr1 : p ∉ r1 := fun z => by
          obtain ⟨u, e, _⟩ := G1.emb.tr p z
          rw [hp] at e
          cases e
        have hp0 : ∀ v, H p = some v → ∃ ps, v = .tbl ps := fun v e => by
          by_cases t : ∃ ps, v = .tbl ps
          · exact t
          · have pr : p ∉ r := fun z => pr1 (let ⟨l, k⟩ := G1.pre; by rw [← k]; exact List.mem_append_left _ z)
            have := G1.fre p v e pr fun ps k => t ⟨ps, k⟩
            rw [hp] at this
            cases this
        have G2 : Gro M r H h1 r1 (upd (upd H1 d (.dK ys)) p (.dK [])) := G1.out hp0 pr1 (by rw [hp]; exact fun _ => nofun) (by rw [hp]; exact fun _ => nofun)
        refine ⟨r1, s, h1, hs.mono G2.pre, G2.emb, (Cn.split (R := RV M) G2 q).mono fun y H2 ⟨r2, v2, h2, ev2, g2, z2⟩ => ?_⟩
        rw [ev2] at q
        have q : Cn M (XAt W σ) r H ((fv s h2).bind fun z h3 => gd (mixK v2 kvs) (newOb (.dct (putK v2 z kvs)) h3)) (RV M) Q := q
        have G3 := G2.trans g2
        refine ⟨r2, s, h2, hs.mono G3.pre, G3.emb, (Cn.split (R := RV M) G3 q).mono fun z H3 ⟨r3, v3, h3, ev3, g3, z3⟩ => ?_⟩
        rw [ev3] at q
        have q : Cn M (XAt W σ) r H (gd (mixK v2 kvs) (newOb (.dct (putK v2 v3 kvs)) h3)) (RV M) Q := q
        obtain ⟨hb, q⟩ := q.gd
        have G4 := g2.trans g3
        have hp3 : H3 p = some (.dK []) := G4.fre p _ upd_same pr1 fun ps => nofun
        have hd3 : H3 d = some (.dK ys) := G4.fre d _ ((upd_ne (Ne.symm hpd)).trans upd_same) dr1 fun ps => nofun
        have dr3 : d ∉ r3 := fun z => by
          obtain ⟨ps, k⟩ := G4.new d z dr1 _ ((upd_ne (Ne.symm hpd)).trans upd_same)
          cases k
        have pr3 : p ∉ r3 := fun z => by
          obtain ⟨ps, k⟩ := G4.new p z pr1 _ upd_same
          cases k
        obtain ⟨⟨l, zk, rfl⟩, mx⟩ := mixK_ok z2 hb
        have G5 := (G2.trans G4).out (u := .dK [(l, z)]) hp0 pr3 (by rw [hp3]; exact fun _ => nofun) (by rw [hp3]; exact fun _ => nofun)
        have hd4 : upd H3 p (.dK [(l, z)]) d = some (.dK ys) := (upd_ne (Ne.symm hpd)).trans hd3
        have G6 := G5.out (u := .dK (L2.putK ys l z)) hd' dr3 (by rw [hd4]; exact fun _ => nofun) (by rw [hd4]; exact fun _ => nofun)
        have lm : Paired (RD (M := M) r3) kvs ys := Paired.mapP ls fun _ _ z => ⟨z.1, z.2.mono G4.pre⟩
        have pk := putK_ok lm zk mx z3
        have G7 := G6.take (o := .dct (putK v2 v3 kvs)) hd dr3 (fun _ => nofun) (fun _ => nofun) ⟨_, rfl, Paired.mapP pk fun _ _ z => ⟨z.1, z.2.mono (List.prefix_append _ _)⟩⟩
        refine ⟨l, rfl, hp3, hd3, Ne.symm hpd, q _ _ _ G7 ⟨d, ?_, rfl⟩⟩
        rw [← G6.emb.len]
        exact get_last r3 d
theorem se_lck {e : Expr} {a x : Ex} {ev : EvE} (hp : PE X e (tF M W fun s h => ev s x h)) : PE X e (tF M W fun s h => eLck ev s a x h) := by
  refine ⟨fun pins s σ H Q I ⟨r, sm, h, hs, he, q⟩ => ?_⟩
  have q : Cn M (XAt W σ) r H (match dctOf h (peek sm h a) with
    | some p => unlk p.1 p.2 (ev sm x (h.set p.1 (.frz (.dct p.2))))
    | none => ev sm x h) (RV M) Q := q
  cases ed : dctOf h (peek sm h a) with
  | none =>
    rw [ed] at q
    exact hp.run pins s σ H Q I ⟨r, sm, h, hs, he, q⟩
  | some pk =>
    rw [ed] at q
    obtain ⟨b, kvs⟩ := pk
    have eb : h.get b = some (.dct kvs) := by
      unfold dctOf at ed
      split at ed
      · split at ed
        · rename_i k q
          cases ed
          exact q
        · cases ed
      · cases ed
    obtain ⟨p, u, hpb, hu, ys, rfl, ls⟩ := he.at_ b _ eb
    refine (pe_lock hp).run pins s σ H Q I ⟨p, .dK ys, hu, True.intro, fun od => ?_⟩
    have zo : RO M r (.frz (.dct kvs)) (.frz od (.dK ys)) := ⟨od, _, rfl, ys, rfl, ls⟩
    refine ⟨r, sm, h.set b (.frz (.dct kvs)), hs, he.put hpb hu True.intro zo, ?_⟩
    show Cn M (XAt W σ) r (upd H p (.frz od (.dK ys))) (ev sm x (h.set b (.frz (.dct kvs)))) (RV M) _
    revert q
    show Cn M (XAt W σ) r H (unlk b kvs (ev sm x (h.set b (.frz (.dct kvs))))) (RV M) Q → _
    cases ev sm x (h.set b (.frz (.dct kvs))) with
    | ok v h2 => exact fun q r2 y H2 g z => ⟨g.frz p od _ upd_same, q r2 y _ (Gro.unlock hpb hu True.intro ⟨ys, rfl, ls⟩ g) z⟩
    | ex c f h2 => exact fun q => q.elim
    | no => exact fun q => q
theorem get_dctP (he : Emb M r h H) {a : Nat} {p : Addr} {xs : List (Va × Va)} (hp : r[a]? = some p) (e : h.get a = some (.dct xs)) : ∃ ys, H p = some (.dK ys) ∧ Paired (RD (M := M) r) xs ys := by
  obtain ⟨p', u, e1, e2, ys, rfl, ls⟩ := he.at_ a _ e
  rw [hp] at e1
  cases e1
  exact ⟨ys, e2, ls⟩
theorem wipe_idem (σ : L2.St) : ∀ (us vs : List Nat), (∀ i ∈ us, i ∈ vs) → wipe (wipe σ vs) us = wipe σ vs
  | [], _, _ => rfl
  | u :: us, vs, hu => by
    show (wipe (wipe σ vs) us).set u none = wipe σ vs
    rw [wipe_idem σ us vs fun i hi => hu i (List.mem_cons_of_mem _ hi)]
    have go : ∀ vs : List Nat, u ∈ vs → (wipe σ vs).set u none = wipe σ vs := fun vs => by
      induction vs with
      | nil => exact fun z => by cases z
      | cons v vs ih =>
        intro z
        show ((wipe σ vs).set v none).set u none = (wipe σ vs).set v none
        by_cases c : u = v
        · rw [c, List.set_set]
        · rw [List.set_comm _ _ (Ne.symm c), ih ((List.mem_cons.mp z).resolve_left c)]
    exact go vs (hu u (List.mem_cons_self ..))
/-- the dict comprehension's invariant from the small one -/
theorem dc_ok {w : Wk} {J : It} {t : LT} {g : TG} {cs : Fr → Hv → Rs Bool} {kx vx : Fr → Hv → Rs Va} {s : Fr} {σ : L2.St} {ws : List Nat} {E : XK} {Q : VK} (iw : IWk M X.K r H w J) (lt : LtOk X t g) (hw : ∀ i ∈ t.slots, i ∈ ws) (he : Emb M r h H) (hs : RF M r s σ)
    (q : Cn M E r H (evD w t cs kx vx (wp s ws) h.n w.len 0 (h.new (.dct []))) (RV M) Q) : ∀ D, H D = none → ∃ Wi : Nat → Nat → Hp → Prop, (∃ m, Wi 0 m (upd H D (.dK []))) ∧ ∀ i m H, Wi i m H →
      (J.stop i H ∧ Q (.ref D) H) ∨ (J.go i H ∧ ∃ Nx : Hp → Prop, (∀ H', Nx H' → ∃ m', m' < m ∧ Wi (i + 1) m' H') ∧ ∀ x H', J.yld i H x H' → g x (wipe σ ws) H' fun σ2 H2 => wipe σ2 ws = wipe σ ws ∧ tFT M WF cs σ2 H2 fun b H3 =>
        if b = true then tF M WF kx σ2 H3 fun y H4 => tF M WF vx σ2 H4 fun z H5 => ∃ kvs k, y = kV k ∧ H5 D = some (.dK kvs) ∧ kvs.length < sizeLine ∧ Nx (upd H5 D (.dK (L2.putK kvs k z))) else Nx H3) := by
  intro D hD
  have g0 := he.alloc (o := .dct []) (u := .dK []) hD ⟨[], rfl, .nil⟩
  have hn : (r ++ [D])[h.n]? = some D := by
    rw [← he.len]
    exact get_last r D
  refine ⟨fun i m H => ∃ r1 h1, IWk M X.K r1 H w J ∧ RF M r1 (wp s ws) (wipe σ ws) ∧ Emb M r1 h1 H ∧ r1[h.n]? = some D ∧ i + m = w.len ∧ Cn M E r1 H (evD w t cs kx vx (wp s ws) h.n m i h1) (RV M) Q, ⟨w.len, r ++ [D], _, iw.mono g0, (wp_ok hs ws).mono g0.pre, g0.emb, hn, Nat.zero_add _, q.later g0⟩, ?_⟩
  rintro i m H1 ⟨r1, h1, iw, hs1, he1, hp, hi, q⟩
  cases m with
  | zero =>
    have q : Cn M E r1 H1 (match w.fin h1 with
      | true => .ok (.ref h.n) h1
      | false => .no) (RV M) Q := q
    cases e : w.fin h1 with
    | false =>
      rw [e] at q
      exact q.elim
    | true =>
      rw [e] at q
      have hi : i = w.len := hi
      exact .inl ⟨by rw [hi]; exact wk_fin iw he1 e, Cn.ok (v := Va.ref h.n) q he1 ⟨D, hp, rfl⟩⟩
  | succ k =>
    have q : Cn M E r1 H1 (match w.yld i h1 with
      | none => .no
      | some y => match setT t y (wp s ws) h1 with
        | none => .no
        | some s1 => match cs s1 h1 with
          | .ok b h2 => (match b with
            | true => (match kx s1 h2 with
              | .ok u h3 => (match vx s1 h3 with
                | .ok v h4 => (match h4.get h.n with
                  | some (.dct acc) => (match mixK u acc && Nat.blt acc.length Bnd with
                    | true => evD w t cs kx vx (wp s ws) h.n k (i + 1) (h4.set h.n (.dct (putK u v acc)))
                    | false => .no)
                  | _ => .no)
                | _ => .no)
              | _ => .no)
            | false => evD w t cs kx vx (wp s ws) h.n k (i + 1) h2)
          | _ => .no) (RV M) Q := q
    cases e : w.yld i h1 with
    | none =>
      rw [e] at q
      exact q.elim
    | some y =>
      rw [e] at q
      dsimp only at q
      cases e2 : setT t y (wp s ws) h1 with
      | none =>
        rw [e2] at q
        exact q.elim
      | some s1 =>
        rw [e2] at q
        dsimp only at q
        obtain ⟨go, yl⟩ := wk_yld iw he1 e
        refine .inr ⟨go, fun H' => ∃ r2 h2, IWk M X.K r2 H' w J ∧ RF M r2 (wp s ws) (wipe σ ws) ∧ Emb M r2 h2 H' ∧ r2[h.n]? = some D ∧ (i + 1) + k = w.len ∧ Cn M E r2 H' (evD w t cs kx vx (wp s ws) h.n k (i + 1) h2) (RV M) Q, fun H' z => ⟨k, Nat.lt_succ_self _, z⟩, fun x H' hy => ?_⟩
        refine setT_ok lt he1 hs1 e2 (yl x H' hy) fun σ1 g1 hs2 sb => ⟨?_, ?_⟩
        · rw [sb ws hw]
          exact wipe_idem σ ws ws fun _ z => z
        · have q := q.later g1
          revert q
          cases ec : cs s1 h1 with
          | no => exact fun q => q.elim
          | ex c f h2 => exact fun q => q.elim
          | ok b h2 =>
            intro q
            refine ⟨r1, s1, h1, hs2, g1.emb, ?_⟩
            rw [ec]
            intro r2 b' H2 g2 eb
            cases eb
            have q := Cn.later g2 q
            cases b with
            | false => exact (if_neg (by decide)).mpr ⟨r2, h2, (iw.mono g1).mono g2, hs1.mono g2.pre, g2.emb, pre_get g2.pre hp, by omega, q⟩
            | true =>
              refine (if_pos rfl).mpr ⟨r2, s1, h2, hs2.mono g2.pre, g2.emb, ?_⟩
              dsimp only at q
              revert q
              cases ee : kx s1 h2 with
              | no => exact fun q => q.elim
              | ex c f h3 => exact fun q => q.elim
              | ok u h3 =>
                intro q r3 y3 H3 g3 z3
                have q := Cn.later g3 q
                refine ⟨r3, s1, h3, (hs2.mono g2.pre).mono g3.pre, g3.emb, ?_⟩
                dsimp only at q
                revert q
                cases ev : vx s1 h3 with
                | no => exact fun q => q.elim
                | ex c f h4 => exact fun q => q.elim
                | ok v h4 =>
                  intro q r4 y4 H4 g4 z4
                  have q := Cn.later g4 q
                  dsimp only at q
                  have hp4 := pre_get g4.pre (pre_get g3.pre (pre_get g2.pre hp))
                  split at q
                  · rename_i acc ea
                    obtain ⟨ys, hy, ls⟩ := get_dctP g4.emb hp4 ea
                    split at q
                    · rename_i lb
                      rw [Bool.and_eq_true] at lb
                      obtain ⟨⟨l, zk, rfl⟩, mx⟩ := mixK_ok (z3.mono g4.pre) lb.1
                      refine ⟨ys, l, rfl, hy, by rw [← ls.length]; exact bnd_lt lb.2, ?_⟩
                      have g5 := g4.emb.set hp4 hy True.intro (o := .dct (putK u v acc)) (u := .dK (L2.putK ys l y4)) ⟨_, rfl, putK_ok ls zk mx z4⟩
                      exact ⟨r4, _, ((((iw.mono g1).mono g2).mono g3).mono g4).mono g5, ((hs1.mono g2.pre).mono g3.pre).mono g4.pre, g5.emb, hp4, by omega, q.later g5⟩
                    · exact q.elim
                  · exact q.elim
theorem dc_read {iter : Expr} {k : IK} {ga : Fr → Hv → Rs (List Va)} {wi : TI} {t : LT} {g : TG} {cs : Fr → Hv → Rs Bool} {kx vx : Fr → Hv → Rs Va} {ws : List Nat} (hi : ItOk X M W tg iter k ga wi) (lt : LtOk X t g) (hw : ∀ i ∈ t.slots, i ∈ ws) (σ : L2.St) (H : Hp) (Q : VK)
    (q : tF M W (fun s h => (ga s h).bind fun vs h1 => match wkOf k vs h1 with
      | none => .no
      | some w => evD w t cs kx vx (wp s ws) h1.n w.len 0 (h1.new (.dct []))) σ H Q) : tDc wi g (tFT M WF cs) (tF M WF kx) (tF M WF vx) ws σ H Q := by
  obtain ⟨r, s, h, hs, he, q⟩ := q
  exact hi.go σ H _ (tFA.step hs he q fun r1 us h1 xs H1 g1 hs1 he1 z1 q1 => by
    cases e : wkOf k us h1 with
    | none =>
      rw [e] at q1
      exact q1.elim
    | some w =>
      rw [e] at q1
      exact ⟨r1, us, h1, w, he1, z1, e, fun J iw => dc_ok iw lt hw he1 hs1 q1⟩)
end
end MP
set_option linter.all false
set_option maxRecDepth 100000
set_option maxHeartbeats 4000000
/-! Static methods read off a class; properties assigned; calls with keywords. -/
namespace MP
open PySem L2
/-- C.m is a static method around the def numbered g -/
structure SmOk (K : PySem.W.Frag) (M : Wd) (c : Nat) (m : Str) (g : Nat) : Prop where
  rd : ∃ mc p rest, PySem.W.readsIn K (M.ca c) mc = true ∧ PySem.W.findCls K (.ref (M.ca c)) mc m = some (.get (.builtin "staticmethod.__get__") (.ref p) .none (.ref (M.ca c))) ∧ PySem.W.recIn K p "staticmethod" = some (.ref (M.fa g) :: rest)
  ga : PySem.W.specialIn K (.ref (M.ca c)) "__getattribute__" = some (some (.builtin "type.__getattribute__"))
  kp : PySem.W.keepIn K (.ref (M.fa g)) = true
section
variable {X : Cx} {M : Wd} {W : WX} {T : Tb} {r r' : List Addr} {h h' : Hv} {H H' : Hp} {K : PySem.W.Frag} {O : Orc}
theorem sm_run {c g : Nat} {m x : Str} {p apos pos : Pos} {args : List Expr} {pins : List (Addr × Obj)} {σ : L2.St} {s : Shared} {Qf : Value → Shared → Prop} (S : SmOk X.K M c m g) (hg : Gl X x) (hm : X.mg x = some (.ref (M.ca c))) (hd : (x == ("__debug__" : Str)) = false)
    (hl : (apos.endLine == pos.line) = true) (hp : args.all plainX = true) (hn : Nat.blt args.length 30 = true) (I : Inv X pins σ H s)
    (k : ∀ s1, Inv X pins σ H s1 → wpAny (model X.prog X.w) X.A (callWith pos (.ref (M.fa g)) [] (backTo pos (starEach args X.env)) (backToKw pos (keywordEach [] X.env))) Qf X.xe s1) :
    wpAny (model X.prog X.w) X.A (eval (.Call (.Attribute (.Name x p) m apos) args [] pos) X.env) Qf X.xe s := by
  obtain ⟨mc, pa, rest, k1, k2, k3⟩ := S.rd
  refine PySem.W.methodCall_KW (pl := _) (thn ((pe_glob (pos := p) hg hm (v := .ref (M.ca c)) rfl hd).run pins s σ H (fun v H1 => v = .ref (M.ca c) ∧ H1 = H) I ⟨rfl, rfl⟩) fun u s1 ⟨y, H1, I1, rx, ex, eH⟩ => ?_) (callM rfl hl hp hn)
  subst ex
  subst eH
  obtain rfl : u = Value.ref (M.ca c) := rx
  refine PySem.W.method_cls I1.kIn S.ga (PySem.W.cls_bind I1.kIn k1 k2 (wpAny_call (PySem.W.sm_get (s := { s1 with toks := s1.toks + 1 }) I1.kIn k3 (PySem.W.handed_on rfl ?_))))
  exact k _ (I1.tok _)
theorem se_sm {c g : Nat} {m x : Str} {p apos pos : Pos} {e : Expr} {es : List Expr} {ga : Fr → Hv → Rs (List Va)} (S : SmOk X.K M c m g) (D : DBl X T M O g) (hr : Room (T.cur - 1) X.A) (hg : Gl X x) (hm : X.mg x = some (.ref (M.ca c))) (tk : Takes X W)
    (ha : PA X (e :: es) (tFA M W ga)) (hp : (e :: es).all plainX = true) (hd : (x == ("__debug__" : Str)) = false) (hl : (apos.endLine == pos.line) = true) (hn : Nat.blt (e :: es).length 30 = true) :
    PE X (.Call (.Attribute (.Name x p) m apos) (e :: es) [] pos) (tF M W fun s h => (ga s h).bind fun vs h1 => callF T O 0 g vs h1) := by
  refine ⟨fun pins s σ H Q I ⟨r, sm, h, hs, he, q⟩ => sm_run S hg hm hd hl hp hn I fun s1 I1 => ?_⟩
  have run := ha.run pos pins s1 σ H (AK T M W O g σ Q []) I1 (tFA.step hs he q fun r1 v h1 y H1 g1 hs1 he1 z1 q1 => ⟨r1, v, h1, he1, z1, q1⟩)
  rw [List.all_cons, Bool.and_eq_true] at hp
  exact PySem.W.callWith_K (h₀ := X.base) I.ok.mod.kin S.kp (thn run fun us s1 ⟨ys, H1, I1, rv, r1, vs, h1, he1, z1, q1⟩ => ⟨I1.kIn, D.run hr tk I1 rv he1 z1 q1⟩) (starEach_plain es X.env hp.1) (noStar hp.2)
theorem se_sm0 {c g : Nat} {m x : Str} {p apos pos : Pos} (S : SmOk X.K M c m g) (D : DBl X T M O g) (hr : Room (T.cur - 1) X.A) (hg : Gl X x) (hm : X.mg x = some (.ref (M.ca c))) (tk : Takes X W)
    (hd : (x == ("__debug__" : Str)) = false) (hl : (apos.endLine == pos.line) = true) : PE X (.Call (.Attribute (.Name x p) m apos) [] [] pos) (tF M W fun s h => callF T O 0 g [] h) := by
  refine ⟨fun pins s σ H Q I ⟨r, sm, h, hs, he, q⟩ => sm_run S hg hm hd hl rfl rfl I fun s1 I1 => ?_⟩
  exact PySem.W.callWith_K0 I1.kIn S.kp (D.run (vs := []) (ys := []) hr tk I1 .nil he .nil q)
/-- a property with a setter -/
structure PsOk (K : PySem.W.Frag) (M : Wd) (c f g : Nat) : Prop where
  cl : Cls K (M.ca c)
  st : ∃ p d rest, PySem.W.takerIn K (M.ca c) (M.an f) = some (some (.ref p)) ∧ PySem.W.typeIn K (.ref p) = some (.type "property") ∧ PySem.W.recIn K p "property" = some (d :: .ref (M.fa g) :: rest)
theorem setp_run {c f g : Nat} (S : PsOk X.K M c f g) (D : DBl X T M O g) (hr : Room (T.cur - 1) X.A) (tk : Takes X W) {pins : List (Addr × Obj)} {σ : L2.St} {s : Shared} {p dx : Addr} {ys : List (Str × V)} {y : V} {u : Value} {vs : List Va} {Q : VK} (I : Inv X pins σ H s) (ea : H p = some (.ins (M.ca c) dx ys))
    (rv : RelV y u) (he : Emb M r h H) (z : RVs M r vs [.ref p, y]) (q : Cn M (XAt W σ) r H (callF T O 2 g vs h) (RV M) Q) : wpAny (model X.prog X.w) X.A (setAttr (.ref p) (M.an f) u) (fun _ s' => ∃ v H', Inv X pins σ H' s' ∧ Q v H') X.xe s := by
  obtain ⟨pp, d, rest, k1, k2, k3⟩ := S.st
  obtain ⟨mA, O1, _, _, _, _⟩ := ins_get I.hok ea
  obtain ⟨od, J, _⟩ := O1.look
  obtain ⟨lt, j, hj, hl, q⟩ := callF_ok q
  obtain ⟨fd, ps, F, hd, _⟩ := (D (by omega)).ex
  obtain ⟨ds, dvs, hb, hv, zd⟩ := (hd j hj).ex
  have sp := spO_at (g := O g) (n := T.ar g) he z zd hl q
  have I1 := I.tok (s.toks + 1)
  have rr : Vals [V.ref p, y] [Value.ref p, u] := .cons rfl (.cons rv .nil)
  have r2 := Vals.append rr hv
  have ln : ([Value.ref p, u] ++ ds).length = ps.length := by
    rw [← r2.length]
    exact F.len _ _ _ _ sp
  refine PySem.W.set_plain I.kIn J S.cl.sa (PySem.W.osa_descr PySem.W.KF.slot_pset I1.kIn J S.cl.po k1 k2 (PySem.W.prop_set I1.kIn k3 ?_))
  refine codeAny_mono (F.run X.A.in1.in1 X.stack { s with toks := s.toks + 1 } H ⟨[.ref p, u], []⟩ ([.ref p, u] ++ ds) _ Q (XAt W σ) (room_of hr lt).in1.in1 I1.env0.in1.in1 (hb _ [.ref p, u] I1.kIn ln) r2 sp) fun res s' hq => ?_
  cases res with
  | error e => exact passAt tk σ pins _ _ e s' I1 hq
  | ok fl =>
    cases fl with
    | ret w =>
      obtain ⟨v, H', I3, rv3, q3⟩ := I1.after hq
      exact ⟨v, H', I3, q3⟩
    | next => exact hq.elim
    | brk => exact hq.elim
    | cont => exact hq.elim
theorem ss_fldP {f : Nat} {o e : Expr} {pos pos' : Pos} {fo fe : Fr → Hv → Rs Va} (tko : TOk T M X.K) (hst : ∀ c g, T.stp c f = some g → PsOk X.K M c f g ∧ DBl X T M O g) (hr : Room (T.cur - 1) X.A) (tk : Takes X W) (ho : PE X o (tF M W fo)) (he : PE X e (tF M W fe)) :
    PS X (.Assign [.Attribute o (M.an f) pos'] e pos) (tS M W fun s h => (fe s h).st s fun v h1 => (fo s h1).st s fun x h2 => setFP T O f v x s h2) := by
  refine ⟨fun pins s σ H D I ⟨r, sm, h, hs, hem, q⟩ => ?_⟩
  have t1 : tF M W fe σ H fun y H1 => tF M W fo σ H1 fun x H2 => ∃ r2 v xx h2, RF M r2 sm σ ∧ Emb M r2 h2 H2 ∧ RV M r2 v y ∧ RV M r2 xx x ∧ Cs M W D r2 H2 (setFP T O f v xx sm h2) :=
    tF.stS hs hem q fun r1 v h1 y H1 g1 hs1 he1 z1 q1 => tF.stS hs1 he1 q1 fun r2 x h2 y2 H2 g2 hs2 he2 z2 q2 => ⟨r2, v, x, h2, hs2, he2, z1.mono g2.pre, z2, q2⟩
  refine plainObj_wpAny_Assign_Attribute (thn (he.run pins s σ H _ I t1) fun u s1 ⟨y, H1, I1, ry, q1⟩ => thn (ho.run pins s1 σ H1 _ I1 q1) fun ov s2 ⟨x, H2, I2, rx, r2, v, xx, h2, hs2, he2, z1, z2, q2⟩ => ?_) (swaps_attr e)
  cases xx with
  | ref a =>
    have q2 : Cs M W D r2 H2 (match h2.get a with
      | some (.ins c _) => (match T.fld c f with
        | true => setF T f v (.ref a) sm h2
        | false => (match T.stp c f with
          | some g => (callF T O 2 g [.ref a, v] h2).st sm fun _ h3 => .nx sm h3
          | none => .no))
      | _ => .no) := q2
    split at q2
    · rename_i c fs e1
      obtain ⟨p, dx, ys, rfl, hp, hh, ls⟩ := get_ins he2 e1 z2
      obtain rfl : ov = Value.ref p := rx
      split at q2
      · have q2 : Cs M W D r2 H2 (match h2.get a with
          | some (.ins c fs) => (match T.fld c f && Nat.blt fs.length 1000 with
            | true => .nx sm (h2.set a (.ins c (putFl f v fs)))
            | false => .no)
          | _ => .no) := q2
        rw [e1] at q2
        dsimp only at q2
        split at q2
        · rename_i e2
          rw [Bool.and_eq_true] at e2
          obtain ⟨ok, na⟩ := tko.fld c f e2.1
          have g := he2.set hp hh True.intro (o := .ins c (putFl f v fs)) (u := .ins (M.ca c) dx (putF (M.an f) y ys)) ⟨dx, _, rfl, putFl_ok M ls z1⟩
          exact setattr_ok I2 hh (tko.cls c ok).cl na (by rw [← RFs.length ls]; exact Nat.le_of_ble_eq_true e2.2) ry fun s3 I3 => ⟨σ, _, I3, q2 r2 σ _ g hs2⟩
        · exact q2.elim
      · split at q2
        · rename_i g e2
          obtain ⟨S, Dg⟩ := hst c g e2
          exact thn (setp_run S Dg hr tk I2 hh ry he2 (.cons z2 (.cons z1 .nil)) ((Cs.st (R := RV M) hs2 q2).mono fun w H3 ⟨r3, v3, h3, g3, z3, q3⟩ => Cs.nx q3 g3.emb (hs2.mono g3.pre))) fun _ s3 ⟨w, H', I3, q3⟩ => ⟨σ, H', I3, q3⟩
        · exact q2.elim
    · exact q2.elim
  | _ => exact q2.elim
end
end MP
set_option linter.all false
set_option maxRecDepth 100000
set_option maxHeartbeats 4000000
/-! try .. except (A, B, C) as e; defs called while an exception is handled. -/
namespace MP
open PySem PySem.Spec PyProof.Rows L2
theorem flyZ_keep {B h h' : Heap} {l : List Env} {e : Addr} {Z : Obj → Prop} (f : HandSPX.FlyingZ B l e Z h) (k : ∀ b o, h.get? b = some o → h'.get? b = some o) : HandSPX.FlyingZ B l e Z h' := by
  obtain ⟨f1, f2, f3, oe, vs, T, oT, ts, e1, z, d, v1, n1, n2, e2, d2, v3⟩ := f
  exact ⟨fun b o q => k b o (f1 b o q), f2, f3.of_keeps fun b o q _ => ⟨o, k b o q, rfl⟩, oe, vs, T, oT, ts, k _ _ e1, z, d, v1, n1, n2, k _ _ e2, d2, v3⟩
/-- what an except clause's test says of a class -/
def Tst (X : Cx) (tt : Expr) (P : Value → Bool → Prop) : Prop := ∀ (a : Addr) (oe : Obj) (pn : List (Addr × Obj)) (σ : L2.St) (H : Hp) (s : Shared) (cls : Value) (b : Bool) (Q : Bool → Shared → Prop) (E1 E2 : Value → Shared → Prop),
  Inv (X.suite a ((a, oe) :: pn)) [] σ H s → oe.cls = cls → P cls b → (∀ h', (∀ q o, s.heap.get? q = some o → h'.get? q = some o) → Q b { s with heap := h' }) →
  wpAny (model X.prog X.w) (X.A.mark (some (.ref a))) (eval tt X.env) (fun c s1 => wpAny (model X.prog X.w) (X.A.mark (some (.ref a))) (excMatches (.ref a) c) Q E1 s1) E2 s
section
variable {X : Cx} {x x1 x2 x3 n : Str} {c c1 c2 c3 : Value} {p1 p2 p3 tp : Pos} {kk : Nat}
theorem name_su {a : Addr} {oe : Obj} {pn : List (Addr × Obj)} {σ : L2.St} {H : Hp} {s : Shared} {Q : Value → Shared → Prop} {E : Value → Shared → Prop} (k : Names X x c) (I : Inv (X.suite a ((a, oe) :: pn)) [] σ H s) (q : Q c s) :
    wpAny (model X.prog X.w) (X.A.mark (some (.ref a))) (eval (.Name x p1) X.env) Q E s := by
  obtain ⟨g, d, m | ⟨m, v, nn⟩⟩ := k
  · exact ld_glob (X := X.suite a ((a, oe) :: pn)) I g m q d
  · exact ld_blt (X := X.suite a ((a, oe) :: pn)) I g m v q nn d
theorem tst3 (n1 : Names X x1 c1) (n2 : Names X x2 c2) (n3 : Names X x3 c3) : Tst X (.Tuple [.Name x1 p1, .Name x2 p2, .Name x3 p3] kk tp) fun cls b => PySem.W.exmAny X.K cls [c1, c2, c3] = some b := by
  intro a oe pn σ H s cls b Q E1 E2 I hc hb q
  have ha : s.heap.get? a = some oe := (I.pin (a, oe) (List.mem_append_left _ List.mem_cons_self)).1
  refine wpAny_Tuple (wpAny_items_cons (name_su n1 I (wpAny_items_cons (name_su n2 I (wpAny_items_cons (name_su n3 I (wpAny_items_nil ⟨by rw [sizeLine_eq]; exact (show (3 : Nat) ≤ 16777216 by decide), ?_⟩)))))))
  have kp : ∀ q o, s.heap.get? q = some o → (s.heap.push { cls := .type "tuple", data := .seq [c1, c2, c3].toArray }).get? q = some o := fun _ _ z => Heap.get?_push_of_some _ z
  have LT : PySem.W.Looks (model X.prog X.w) (s.heap.push { cls := .type "tuple", data := .seq [c1, c2, c3].toArray }) (typeOf (.ref a)) cls := fun A Q E s k q => wpAny_typeOf_ref (k _ _ (kp _ _ ha)) (by rw [hc]; exact q)
  exact (PySem.W.exm_tup3 (I.kIn.keeps kp) LT (Heap.get?_push_size _ rfl) hb).here (q _ kp)
/-- what the clause wishes of an exception of the body: slot i is the name's -/
def wTas (P : Value → Bool → Prop) (i : Nat) (ts : Addr → Value → Option Addr → TS) (Wout : WX) (D : Ends) : WX := fun cls d σ H =>
  ∃ b, P cls b ∧ (b = true → ∀ a, H a = none → ts a cls d { nx := fun σ' H' => D.nx (σ'.set i none) H', rt := D.rt, bk := fun σ' H' => D.bk (σ'.set i none) H', ct := fun σ' H' => D.ct (σ'.set i none) H' } (σ.set i (some (.ref a))) H) ∧
    (b = false → Wout cls d σ H)
variable {i : Nat} {body suite : List Stmt} {b₀ : Stmt} {tt : Expr} {P : Value → Bool → Prop} {pos pos' : Pos} {tb : WX → TS} {ts : Addr → Value → Option Addr → TS} {Wout : WX}
theorem ps_try_tas (hs : X.stack = X.env :: X.outer) (hf : X.env.frame = some X.env.locals) (hN : X.N.Nodup) (hi : X.N[i]? = some n) (hln : X.env.kindOf n = some .local) (hT : Tst X tt P) (tk : Takes X Wout)
    (hb : ∀ (W : WX) (pn : List (Addr × Obj)) (xe : Value → Shared → Prop), Takes (X.tr pn xe) W → PassesOwn (model X.prog X.w) X.A X.env xe → PSs (X.tr pn xe) body (tb W))
    (hsu : ∀ (a : Addr) (oe : Obj) (cls : Value) (d : Option Addr) (pn : List (Addr × Obj)), Zc cls d oe → (∃ vs, oe.data = .fields vs) → PSs (X.suite a ((a, oe) :: pn)) (b₀ :: suite) (ts a cls d)) :
    PS X (.Try body [.ExceptHandler (some tt) (some n) (b₀ :: suite) pos'] [] [] pos) (fun D σ H => tb (wTas P i ts Wout D) D σ H) := by
  refine ⟨fun pins s σ H D I h => ?_⟩
  have ok := I.ok
  have fr : X.A.frames = some (X.env :: X.outer) := by rw [ok.frames, hs]
  have lo : Loc X.env.scope n := .inl hln
  let Xe : Value → Shared → Prop := fun e s₁ => wpAny (model X.prog X.w) X.A (noteFrame e X.env) (fun _ s₂ => wpAny (model X.prog X.w) X.A (setFlight e none) (fun _ s₃ =>
    wpAny (model X.prog X.w) X.A (handleBy e X.env [.ExceptHandler (some tt) (some n) (b₀ :: suite) pos']) (SP X pins D) X.xe s₃) X.xe s₂) X.xe s₁
  have catch_ : Takes (X.tr (X.pn ++ pins) Xe) (wTas P i ts Wout D) := by
    rintro u s' ⟨a, B, sI, pins', σ', H', cls, d, rfl, J', nb, up, sky0, na, os, ag, b, hb1, yes, no⟩
    have J : Inv X pins σ' H' sI := J'.ofTry ok
    have sky : Sky B (X.env :: X.outer) a (Zc cls d) X.env.locals s'.heap := by rw [← hs]; exact sky0
    show wpAny (model X.prog X.w) X.A (noteFrame (.ref a) X.env) _ _ _
    refine Sky.land Zc.steady fr hf sky fun h3 fl3 up3 => ?_
    have u3 := up.trans up3
    have J3 : Inv X pins σ' H' { s' with heap := h3 } := J.landed nb fl3.1 u3 os ag
    obtain ⟨oe3, vs3, he3, hz3, hd3⟩ := fl3.there
    have apart : ∀ {h : Heap} {o : Obj} {vs : Array Value}, h.FunFrames B (X.env :: X.outer) → h.get? a = some o → o.data = .fields vs → a ∉ frs (X.env :: X.outer) := fun {h o vs} ff e dd hm => by
      obtain ⟨_, o2, e2, hn⟩ := ff.mem hm
      rw [e] at e2
      cases e2
      exact hn _ dd
    have nfr := apart fl3.2.2.1 he3 hd3
    have nL : a ≠ X.env.locals := fun z => nfr (List.mem_filterMap.mpr ⟨X.env, List.mem_cons_self, by rw [hf, z]⟩)
    have nF : a ∉ X.fs := fun hm => by
      obtain ⟨e, he, q⟩ := List.mem_filterMap.mp hm
      exact nfr (List.mem_filterMap.mpr ⟨e, List.mem_cons_of_mem _ he, q⟩)
    have S3 := J3.suite he3 hd3 na nL nF
    refine wpAny_handleBy_cons (codeAny_handlers_test (hT a oe3 (X.pn ++ pins) σ' H' _ cls b _ _ _ S3 hz3.1 hb1 fun h5 k5 => ?_)) (by intro q; cases q)
    have fl5 := flyZ_keep fl3 k5
    have u5 := u3.trans (Heap.UpToSlots.of_keeps k5)
    cases b with
    | true =>
      refine codeAny_handlers_suite_as (HandSPX.lands_againZ fl5 fun h4 fl4 up4 => ?_)
      have J4 : Inv X pins σ' H' { s' with heap := h4 } := J.landed nb fl4.1 (u5.trans up4) os ag
      obtain ⟨oe4, vs4, he4, hz4, hd4⟩ := fl4.there
      have S4 := J4.suite he4 hd4 na nL nF
      refine store_ok (X := X.suite a ((a, oe4) :: (X.pn ++ pins))) (v := .ref a) S4 hN hi lo rfl (fun s5 S5 => ?_) (.inr hln)
      refine wpAny_mono ((hsu a oe4 cls d (X.pn ++ pins) hz4 ⟨_, hd4⟩).run [] s5 _ H' _ S5 (yes rfl a na)) (fun f s6 hsp => ?_) (fun _ _ z => False.elim z)
      have out : ∀ {σ6 : L2.St} {H6 : Hp} {Q : Shared → Prop}, Inv (X.suite a ((a, oe4) :: (X.pn ++ pins))) [] σ6 H6 s6 → (∀ s7, Inv X pins (σ6.set i none) H6 s7 → Q s7) →
          wpAny (model X.prog X.w) X.A (do bindName X.env n .none; unbindBehindTheSuite X.env n pos') (fun _ s7 => Q s7) X.xe s6 := fun {σ6 H6 Q} S6 hq => gone_ok (S6.unsuite ok) hN hi hln hq
      cases f with
      | next => exact let ⟨σ6, H6, S6, q6⟩ := hsp; out S6 fun s7 J7 => ⟨_, _, J7, q6⟩
      | brk => exact let ⟨σ6, H6, S6, q6⟩ := hsp; out S6 fun s7 J7 => ⟨_, _, J7, q6⟩
      | cont => exact let ⟨σ6, H6, S6, q6⟩ := hsp; out S6 fun s7 J7 => ⟨_, _, J7, q6⟩
      | ret u => exact let ⟨v6, σ6, H6, S6, r6, q6⟩ := hsp; out S6 fun s7 J7 => ⟨_, _, _, J7, r6, q6⟩
    | false =>
      show wpAny _ X.A (handleBy (.ref a) X.env []) _ _ _
      refine wpAny_handleBy_nil ?_
      obtain ⟨m1, m2, m3, oe, vs, T, oT, ts', he, hz, hd, h1, hr⟩ := id fl5
      unfold PySem.passOn
      refine wpAny_bind (wpAny_field he hd h1 ?_)
      rw [if_neg (show ¬ ((Value.ref T == Value.none) = true) from by simp)]
      have fin : wpAny (model X.prog X.w) X.A (setFlight (.ref a) X.env.frame) (fun _ s4 => wpAny (model X.prog X.w) X.A (throw (.ref a) : Sem Flow) (SP X pins D) X.xe s4) X.xe { s' with heap := h5 } := by
        rw [hf]
        exact HandSPX.setFlight_upZ fl5 fun h4 hh4 up4 => wpAny_throw (tk _ _ ⟨a, B, sI, pins, σ', H', cls, d, rfl, J, nb, u5.trans up4, .inr (.inr (by rw [hs]; exact hh4)), na, os, ag, no rfl⟩)
      first
        | exact wpAny_bind (wpAny_pure (wpAny_bind fin))
        | exact wpAny_bind fin
  refine wpAny_Try_except (wpAny_mono ((hb _ _ Xe catch_ PassesOwn.looking).run [] s σ H D (I.toTry _) h) (fun f s1 hsp => ?_) (fun e s1 he => he))
  cases f with
  | next => exact let ⟨σ', H', J', q⟩ := hsp; wpAny_execs_nil ⟨σ', H', J'.ofTry ok, q⟩
  | brk => exact let ⟨σ', H', J', q⟩ := hsp; ⟨σ', H', J'.ofTry ok, q⟩
  | cont => exact let ⟨σ', H', J', q⟩ := hsp; ⟨σ', H', J'.ofTry ok, q⟩
  | ret u => exact let ⟨v, σ', H', J', r, q⟩ := hsp; ⟨v, σ', H', J'.ofTry ok, r, q⟩
end
/-! ### a def called within a suite -/
/-- what it promises: p, the object of the handled exception, lies out of the tracked heap -/
structure FnA (P : Program) (w : World) (K : PySem.W.Frag) (mg : Str → Option Value) (base : Heap) (CX : CXT) (k : Nat) (f : Addr) (fd : FuncData) (ps : List Str) (sp : Addr × Obj → Sp) : Prop where
  len : ∀ p vs H Q E, sp p vs H Q E → vs.length = ps.length
  run : ∀ (A : Around) (outer : List Env) (s : Shared) (H : Hp) (args : Args) (us : List Value) (vs : List V) (Q : VK) (E : XK) (p : Addr × Obj), L2H.RoomH k A → L2H.PinOk outer H s p → Env0 P w K mg base A outer s H → BindsTo s fd args (ps.zip us) → Vals vs us → sp p vs H Q E →
    codeAny (model P w) A (.call (.ref f) args) (CR CX outer P w H s Q E) s
theorem FunD.okA {P : Program} {w : World} {K : PySem.W.Frag} {mg : Str → Option Value} {base : Heap} {CX : CXT} {k : Nat} {f : Addr} {x qual : Str} {params : Arguments} {body : List Stmt} {scope : Scope} {dvs : List V} {kws : List (Str × V)} {fd : FuncData} {N ps : List Str} {sp : Addr × Obj → Sp}
    (F : FunD K x qual params body scope dvs kws f fd) (S : FnScope N ps scope) (len : ∀ p vs H Q E, sp p vs H Q E → vs.length = ps.length)
    (hbody : ∀ (cdv : Value) (A : Around) (outer : List Env) (s : Shared) (H : Hp) (vs : List V) (Q : VK) (E : XK) (p : Addr × Obj), L2H.RoomH k (A.deeper (envOfC qual scope s.heap.objs.size f cdv)) → sp p vs H Q E →
      ∃ t, PSs (L2H.cxH CX P w K mg base N qual scope f cdv A outer s H E p) body t ∧ t { nx := fun _ H' => Q .non H', rt := Q } (L2.start N vs) H) : FnA P w K mg base CX (k + 1) f fd ps sp := by
  obtain ⟨oc, od, dV, kV, doc, pm, an, cdv, ct, osl, rfl, lk, hcd, hD, hK⟩ := F.ex
  refine ⟨len, fun A outer s H args us vs Q E p hr hpin e0 hb r hsp => ?_⟩
  have KX : K.In s.heap := e0.mod.kin.keeps fun b o e => (e0.bs b o e).1
  have lim : s.heap.NoLimit := e0.mod.nolimit.keeps fun b o e => (e0.bs b o e).1
  have hkind : ∀ y ∈ ps.zip us, scope.names.lookup y.1 = some .local ∨ (scope.names.lookup y.1 = some .cell ∧ ((cellsFrom (s.heap.objs.size + 1) scope.names []).lookup y.1).isSome = true) := fun ⟨m, v⟩ hy => (S.par m (List.of_mem_zip hy).1).imp id fun q => ⟨q, PySem.W.cellsFrom_some _ _ _ (.inl q)⟩
  refine codeAny_call_function hr.depth (KX _ _ lk) rfl S.co S.gen rfl (PySem.W.codeRec_of KX hcd) (hb _ _ _ _ (wpAny_newFunctionEnv_cells S.kind hkind fun env he s1 x => ?_))
  subst he
  refine ⟨lim.keeps x.toInCall.keep, codeAny_func ?_⟩
  obtain ⟨t, ht, hq⟩ := hbody cdv A outer s H vs Q E p (hr.deeper _) hsp
  refine wpAny_mono (ht.run [] s1 (L2.start N vs) H _ (L2H.inv_startH S hpin e0 (len _ _ _ _ _ hsp) r x) hq) (fun fl s' hs => ?_) fun e s' hs => hs
  cases fl with
  | ret u => exact let ⟨v, σ', H', J, rv, q⟩ := hs; ⟨v, H', J.os, J.bare, J.base, J.hok, rv, q⟩
  | next => exact let ⟨σ', H', J, q⟩ := hs; ⟨.non, H', J.os, J.bare, J.base, J.hok, rfl, q⟩
  | brk => exact let ⟨_, _, _, q⟩ := hs; False.elim q
  | cont => exact let ⟨_, _, _, q⟩ := hs; False.elim q
theorem FnA.at {X : Cx} {CX : CXT} {k : Nat} {f : Addr} {fd : FuncData} {ps : List Str} {sp : Addr × Obj → Sp} {E : XK} {p : Addr × Obj} {pins : List (Addr × Obj)} {σ : L2.St} {H : Hp} {s : Shared} {Q : VK} {us : List Value} {vs : List V} (F : FnA X.prog X.w X.K X.mg X.base CX k f fd ps sp) (hr : L2H.RoomH k X.A) (hp : p ∈ X.pn)
    (hb : Binds X.K fd ps []) (hx : Passes CX X E) (I : Inv X pins σ H s) (r : Vals vs us) (h : sp p vs H Q E) : wpAny (model X.prog X.w) X.A (call (.ref f) us) (EP X pins σ Q) X.xe s := by
  have b := hb s us I.kIn (by rw [List.append_nil, ← r.length]; exact F.len _ _ _ _ _ h)
  rw [List.append_nil] at b
  have P1 := I.pin p (List.mem_append_left _ hp)
  refine wpAny_call (codeAny_mono (F.run X.A X.stack s H ⟨us, []⟩ us vs Q E p hr ⟨P1.1, P1.2.1, fun hm => (List.mem_cons.mp (I.stkSub p.1 hm)).elim P1.2.2.1 P1.2.2.2.1, P1.2.2.2.2⟩ I.env0 b r h) fun r s' hq => ?_)
  cases r with
  | error e => exact hx pins σ H s e s' I hq
  | ok fl =>
    cases fl with
    | ret u => exact I.after hq
    | next => exact False.elim hq
    | brk => exact False.elim hq
    | cont => exact False.elim hq
/-- x(e) there -/
theorem pe_callA1 {X : Cx} {CX : CXT} {k : Nat} {f : Addr} {fd : FuncData} {ps : List Str} {sp : Addr × Obj → Sp} {E : XK} {p : Addr × Obj} {x : Str} {e : Expr} {te : TE} {q pos : Pos} (F : FnA X.prog X.w X.K X.mg X.base CX k f fd ps sp) (hr : L2H.RoomH k X.A) (hp : p ∈ X.pn) (hg : Gl X x) (hm : X.mg x = some (.ref f)) (hk : PySem.W.keepIn X.K (.ref f) = true)
    (hb : Binds X.K fd ps []) (hx : Passes CX X E) (he : PE X e te) (hpl : plainX e = true) (hdb : (x == ("__debug__" : Str)) = false) : PE X (.Call (.Name x q) [e] [] pos) (fun σ H Q => te σ H fun y H1 => sp p [y] H1 Q E) := by
  refine ⟨fun pins s σ H Q I h => ?_⟩
  refine wpAny_Call_Name_kw (ld_glob I hg hm ?_ hdb)
  refine PySem.W.callWith_K (h₀ := X.base) I.ok.mod.kin hk (thn ((pa_cons he pa_nil (starEach_plain [] X.env hpl)).run pos pins s σ H (fun vs H1 => ∃ y, vs = [y] ∧ sp p [y] H1 Q E) I (show te σ H (fun y H1 => ∃ y', [y] = [y'] ∧ sp p [y'] H1 Q E) from ?_)) fun us s1 ⟨vs, H1, I1, r, y, ey, q⟩ => ⟨I1.kIn, ?_⟩) (starEach_plain [] X.env hpl) rfl
  · exact cast (congrArg (te σ H) (funext fun y => funext fun H1 => propext ⟨fun z => ⟨y, rfl, z⟩, fun ⟨y', e, z⟩ => by cases e; exact z⟩)) h
  · subst ey
    exact F.at hr hp hb hx I1 r q
end MP
set_option linter.all false
set_option maxRecDepth 100000
set_option maxHeartbeats 4000000
/-! Calls with keywords; len of an own class. -/
namespace MP
open PySem L2
section
variable {X : Cx} {M : Wd} {W : WX} {T : Tb} {r r' : List Addr} {h h' : Hv} {H H' : Hp} {K : PySem.W.Frag} {O : Orc}
theorem hasK_mem {n : Nat} {ks : List Nat} {ds : List Va} : ∀ {l : List (Nat × List Nat × List Va)}, hasK n ks l = some ds → (n, ks, ds) ∈ l
  | [], e => by cases e
  | p :: l, e => by
    obtain ⟨m, k2, d2⟩ := p
    have e : (match Nat.beq m n && eqN k2 ks with
      | true => some d2
      | false => hasK n ks l) = some ds := e
    cases q : Nat.beq m n && eqN k2 ks with
    | true =>
      rw [q] at e
      cases e
      rw [Bool.and_eq_true, eqN_ok, decide_eq_true_eq] at q
      rw [Nat.eq_of_beq_eq_true q.1, q.2]
      exact List.mem_cons_self
    | false =>
      rw [q] at e
      exact List.mem_cons_of_mem _ (hasK_mem e)
theorem callK_ok {d g : Nat} {ks : List Nat} {vs ws : List Va} {E : XK} {Q : VK} (q : Cn M E r H (callK T O d g ks vs ws h) (RV M) Q) : T.lv g + d < T.cur ∧ ∃ ds, (vs.length, ks, ds) ∈ T.kwo g ∧ ws.length = ks.length ∧ (vs ++ ws ++ ds).length = T.ar g ∧ Cn M E r H (O g (vs ++ ws ++ ds) h) (RV M) Q := by
  unfold callK at q
  cases e : hasK vs.length ks (T.kwo g) with
  | none =>
    rw [e] at q
    exact q.elim
  | some ds =>
    rw [e] at q
    dsimp only at q
    cases c : Nat.blt (T.lv g + d) T.cur && (Nat.beq ws.length ks.length && Nat.beq (vs.length + ws.length + ds.length) (T.ar g)) with
    | false =>
      rw [c] at q
      exact q.elim
    | true =>
      rw [c] at q
      rw [Bool.and_eq_true, Bool.and_eq_true] at c
      refine ⟨Nat.le_of_ble_eq_true c.1, ds, hasK_mem e, Nat.eq_of_beq_eq_true c.2.1, ?_, q⟩
      rw [List.length_append, List.length_append]
      exact Nat.eq_of_beq_eq_true c.2.2
/-- keywords, their names by numbers -/
structure KwS (X : Cx) (M : Wd) (kws : List Keyword) (ks : List Nat) (pos : Pos) : Prop where
  all : (backToKw pos (keywordEach kws X.env)).all (·.1.isSome) = true
  ks : (backToKw pos (keywordEach kws X.env)).filterMap (·.1) = ks.map M.an
  plain : (backToKw pos (keywordEach kws X.env)).any (·.1.isNone) = false
theorem kwS_nil {pos : Pos} : KwS X M [] [] pos := ⟨rfl, rfl, rfl⟩
theorem kwS_cons {pos kp : Pos} {e : Expr} {k : Nat} {kws : List Keyword} {ks : List Nat} (h : KwS X M kws ks pos) : KwS X M (⟨some (M.an k), e, kp⟩ :: kws) (k :: ks) pos where
  all := by
    show (true && (backToKw pos (keywordEach kws X.env)).all (·.1.isSome)) = true
    rw [h.all]
    rfl
  ks := by
    show M.an k :: (backToKw pos (keywordEach kws X.env)).filterMap (·.1) = _
    rw [h.ks]
    rfl
  plain := by
    show (false || (backToKw pos (keywordEach kws X.env)).any (·.1.isNone)) = false
    rw [h.plain]
    rfl
/-- the keywords' values -/
theorem sk_nil : PK X [] (tFA M W fun _ h => .ok [] h) := ⟨fun pos pins s σ H Q I ⟨r, sm, h, hs, he, q⟩ => (pk_nil (X := X)).run pos pins s σ H Q I (Cn.ok (v := ([] : List Va)) q he .nil)⟩
theorem sk_cons {e : Expr} {nm : Option Str} {kp : Pos} {kws : List Keyword} {f : Fr → Hv → Rs Va} {g : Fr → Hv → Rs (List Va)} (he : PE X e (tF M W f)) (hes : PK X kws (tFA M W g)) : PK X (⟨nm, e, kp⟩ :: kws) (tFA M W fun s h => (f s h).bind fun v h1 => (g s h1).bind fun ys h2 => .ok (v :: ys) h2) :=
  ⟨fun pos pins s σ H Q I ⟨r, sm, h, hs, hem, q⟩ => (pk_cons he hes).run pos pins s σ H Q I (tF.step hs hem q fun r1 v h1 y H1 g1 hs1 he1 z1 q1 => tFA.step hs1 he1 q1 fun r2 w h2 y2 H2 g2 hs2 he2 z2 q2 => Cn.ok (v := v :: w) q2 he2 (.cons (z1.mono g2.pre) z2))⟩
theorem spK_at {n : Nat} {g : List Va → Hv → Rs Va} {vs ws : List Va} {ys zs : List V} {sd : List Va} {dvs : List V} {E : XK} {Q : VK} (he : Emb M r h H) (z : RVs M r vs ys) (zw : RVs M r ws zs) (zd : RVs M [] sd dvs) (hl : (vs ++ ws ++ sd).length = n) (q : Cn M E r H (g (vs ++ ws ++ sd) h) (RV M) Q) : spO M n g (ys ++ zs ++ dvs) H Q E := by
  have z2 := pApp (pApp z zw) (zd.mono List.nil_prefix)
  exact ⟨by rw [← z2.length]; exact hl, r, _, h, he, z2, q⟩
/-- such a def runs, with keywords -/
theorem DBl.runK {g : Nat} (D : DBl X T M O g) (hr : Room (T.cur - 1) X.A) (tk : Takes X W) {pins : List (Addr × Obj)} {σ : L2.St} {H : Hp} {s : Shared} {us uz : List Value} {vs ws : List Va} {ys zs : List V} {ks : List Nat} {r : List Addr} {h : Hv} {Q : VK} (I : Inv X pins σ H s) (rv : Vals ys us) (rz : Vals zs uz)
    (he : Emb M r h H) (z : RVs M r vs ys) (zz : RVs M r ws zs) (q : Cn M (XAt W σ) r H (callK T O 0 g ks vs ws h) (RV M) Q) : wpAny (model X.prog X.w) X.A (call (.ref (M.fa g)) us ((ks.map M.an).zip uz)) (EP X pins σ Q) X.xe s := by
  obtain ⟨lt, ds, hm, hw, hl, q⟩ := callK_ok q
  obtain ⟨fd, ps, F, _, hk⟩ := (D (by omega)).ex
  obtain ⟨mv, dvs, kb, zd⟩ := hk _ _ _ hm
  have sp := spK_at (g := O g) (n := T.ar g) he z zz zd hl q
  have l1 : us.length = vs.length := by rw [← rv.length, ← z.length]
  have l2 : uz.length = (ks.map M.an).length := by rw [← rz.length, ← zz.length, hw, List.length_map]
  refine wpAny_call (codeAny_mono (F.run X.A X.stack s H ⟨us, (ks.map M.an).zip uz⟩ (us ++ uz ++ mv) (ys ++ zs ++ dvs) Q (XAt W σ) (room_of hr lt) I.env0 (kb.to s us uz I.kIn l1 l2) (kb.rel rv rz) sp) fun res s' hq => ?_)
  cases res with
  | error e => exact passAt tk σ pins _ _ e s' I hq
  | ok fl =>
    cases fl with
    | ret u => exact I.after hq
    | next => exact hq.elim
    | brk => exact hq.elim
    | cont => exact hq.elim
theorem new_runK {c g : Nat} (C : KOk X.K M c g) (D : DBl X T M O g) (hr : Room (T.cur - 1) X.A) (tk : Takes X W) {pins : List (Addr × Obj)} {σ : L2.St} {H : Hp} {s : Shared} {us uz : List Value} {vs ws : List Va} {ys zs : List V} {ks : List Nat} {r : List Addr} {h : Hv} {Q : VK} (I : Inv X pins σ H s) (rv : Vals ys us) (rz : Vals zs uz)
    (he : Emb M r h H) (z : RVs M r vs ys) (zw : RVs M r ws zs) (q : Cn M (XAt W σ) r H (mkK T O c g ks vs ws h) (RV M) Q) : wpAny (model X.prog X.w) X.A (call (.ref (M.ca c)) us ((ks.map M.an).zip uz)) (EP X pins σ Q) X.xe s := by
  have fx := I.hok.fresh (Nat.le_succ s.heap.objs.size)
  have fd1 := I.hok.fresh (Nat.le_refl s.heap.objs.size)
  have ne : s.heap.objs.size ≠ s.heap.objs.size + 1 := Nat.ne_of_lt (Nat.lt_succ_self _)
  have g0 := he.ins0 fx fd1 ne c
  have I2 := Inv.made (C := M.ca c) I
  have q := q.later g0
  have hn : (r ++ [s.heap.objs.size + 1])[h.n]? = some (s.heap.objs.size + 1) := by
    rw [← he.len]
    exact get_last r _
  have q2 : Cn M (XAt W σ) (r ++ [s.heap.objs.size + 1]) (upd (upd H s.heap.objs.size (.own (s.heap.objs.size + 1))) (s.heap.objs.size + 1) (.ins (M.ca c) s.heap.objs.size [])) (callK T O 1 g ks (.ref h.n :: vs) ws (h.new (.ins c []))) (RV M) (fun v H2 => v = .non ∧ Q (.ref (s.heap.objs.size + 1)) H2) := by
    unfold mkK at q
    revert q
    cases callK T O 1 g ks (.ref h.n :: vs) ws (h.new (.ins c [])) with
    | ok v h2 =>
      intro q r' y H' g1 z1
      cases v with
      | non =>
        cases z1
        exact ⟨rfl, Cn.okG (v := Va.ref h.n) q g1 ⟨_, pre_get g1.pre hn, rfl⟩⟩
      | _ => exact (q.elim)
    | ex c f h2 => exact fun q => q
    | no => exact fun q => q
  obtain ⟨lt, ds, hm, hw, hl, q3⟩ := callK_ok q2
  obtain ⟨fd, ps, F, _, hk⟩ := (D (by omega)).ex
  have hr := room_of hr lt
  obtain ⟨mv, dvs, kb, zd⟩ := hk _ _ _ hm
  have zz : RVs M (r ++ [s.heap.objs.size + 1]) (.ref h.n :: vs) (.ref (s.heap.objs.size + 1) :: ys) := .cons ⟨_, hn, rfl⟩ (z.mono (List.prefix_append _ _))
  have sp := spK_at (g := O g) (n := T.ar g) g0.emb zz (zw.mono (List.prefix_append _ _)) zd hl q3
  have rr : Vals (V.ref (s.heap.objs.size + 1) :: ys) (Value.ref (s.heap.objs.size + 1) :: us) := .cons (show RelV (V.ref (s.heap.objs.size + 1)) (Value.ref (s.heap.objs.size + 1)) from rfl) rv
  have l1 : (Value.ref (s.heap.objs.size + 1) :: us).length = (Va.ref h.n :: vs).length := by rw [List.length_cons, List.length_cons, ← rv.length, ← z.length]
  have l2 : uz.length = (ks.map M.an).length := by rw [← rz.length, ← zw.length, hw, List.length_map]
  have go := F.run _ X.stack _ _ ⟨Value.ref (s.heap.objs.size + 1) :: us, (ks.map M.an).zip uz⟩ ((Value.ref (s.heap.objs.size + 1) :: us) ++ uz ++ mv) _ _ (XAt W σ) (hr.make (M.ca c) us ((ks.map M.an).zip uz)) (I2.env0.make (M.ca c) us ((ks.map M.an).zip uz)) (kb.to _ (Value.ref (s.heap.objs.size + 1) :: us) uz I2.kIn l1 l2) (kb.rel rr rz) sp
  refine wpAny_call (make_map (f := M.fa g) I.kIn C.made.makes C.made.init (beq_iff_eq.mp C.made.fn) (codeAny_mono go fun res s' hres => ?_))
  cases res with
  | error e => exact passAt tk σ pins _ _ e s' I2 hres
  | ok fl =>
    cases fl with
    | ret u =>
      obtain ⟨v, H', I3, rv3, ev, q4⟩ := I2.after hres
      subst ev
      exact ⟨rv3, ⟨V.ref (s.heap.objs.size + 1), H', I3, rfl, q4⟩⟩
    | next => exact hres.elim
    | brk => exact hres.elim
    | cont => exact hres.elim
theorem se_mkw {c g : Nat} {x : Str} {p pos : Pos} {e : Expr} {es : List Expr} {kws : List Keyword} {ks : List Nat} {ga gk : Fr → Hv → Rs (List Va)} (C : KOk X.K M c g) (D : DBl X T M O g) (hr : Room (T.cur - 1) X.A) (hg : Gl X x) (hm : X.mg x = some (.ref (M.ca c))) (tk : Takes X W)
    (ha : PA X (e :: es) (tFA M W ga)) (hp : (e :: es).all plainX = true) (hkw : PK X kws (tFA M W gk)) (S : KwS X M kws ks pos) (hd : (x == ("__debug__" : Str)) = false) : PE X (.Call (.Name x p) (e :: es) kws pos) (tF M W fun s h => (ga s h).bind fun vs h1 => (gk s h1).bind fun us h2 => mkK T O c g ks vs us h2) := by
  refine ⟨fun pins s σ H Q I ⟨r, sm, h, hs, he, q⟩ => ?_⟩
  refine wpAny_Call_Name_kw (ld_glob I hg hm ?_ hd)
  have t1 : tFA M W ga σ H fun ys H1 => tFA M W gk σ H1 fun zs H2 => ∃ r2 vs ws h2, Emb M r2 h2 H2 ∧ RVs M r2 vs ys ∧ RVs M r2 ws zs ∧ Cn M (XAt W σ) r2 H2 (mkK T O c g ks vs ws h2) (RV M) Q :=
    tFA.step hs he q fun r1 v h1 y H1 g1 hs1 he1 z1 q1 => tFA.step hs1 he1 q1 fun r2 w h2 y2 H2 g2 hs2 he2 z2 q2 => ⟨r2, v, w, h2, he2, z1.mono g2.pre, z2, q2⟩
  rw [List.all_cons, Bool.and_eq_true] at hp
  refine PySem.W.callWith_KW (h₀ := X.base) I.ok.mod.kin C.made.kp S.all (thn (ha.run pos pins s σ H _ I t1) fun us s1 ⟨ys, H1, I1, rv, q1⟩ => thn (hkw.run pos pins s1 σ H1 _ I1 q1) fun uz s2 ⟨zs, H2, I2, rz, r2, vs, ws, h2, he2, z1, z2, q2⟩ => ⟨I2.kIn, ?_⟩) ?_ (starEach_plain es X.env hp.1)
  · rw [S.ks]
    exact new_runK C D hr tk I2 rv rz he2 z1 z2 q2
  · rw [starEach_plain es X.env hp.1, S.plain]
    show ((false || (backTo pos (starEach es X.env)).any (·.1)) || false) = false
    rw [noStar hp.2]
    rfl
theorem se_mkw0 {c g : Nat} {x : Str} {p pos : Pos} {kws : List Keyword} {ks : List Nat} {gk : Fr → Hv → Rs (List Va)} (C : KOk X.K M c g) (D : DBl X T M O g) (hr : Room (T.cur - 1) X.A) (hg : Gl X x) (hm : X.mg x = some (.ref (M.ca c))) (tk : Takes X W)
    (hkw : PK X kws (tFA M W gk)) (S : KwS X M kws ks pos) (hd : (x == ("__debug__" : Str)) = false) : PE X (.Call (.Name x p) [] kws pos) (tF M W fun s h => (gk s h).bind fun us h2 => mkK T O c g ks [] us h2) := by
  refine ⟨fun pins s σ H Q I ⟨r, sm, h, hs, he, q⟩ => ?_⟩
  refine wpAny_Call_Name_kw (ld_glob I hg hm ?_ hd)
  have t1 : tFA M W gk σ H fun zs H2 => ∃ r2 ws h2, Emb M r2 h2 H2 ∧ RVs M r2 ws zs ∧ Cn M (XAt W σ) r2 H2 (mkK T O c g ks [] ws h2) (RV M) Q :=
    tFA.step hs he q fun r2 w h2 y2 H2 g2 hs2 he2 z2 q2 => ⟨r2, w, h2, he2, z2, q2⟩
  refine PySem.W.callWith_KW0 (h₀ := X.base) I.ok.mod.kin C.made.kp S.all (thn (hkw.run pos pins s σ H _ I t1) fun uz s2 ⟨zs, H2, I2, rz, r2, ws, h2, he2, z2, q2⟩ => ⟨I2.kIn, ?_⟩) ?_
  · rw [S.ks]
    exact new_runK (us := []) (ys := []) (vs := []) C D hr tk I2 .nil rz he2 .nil z2 q2
  · rw [S.plain]
    rfl
theorem callMK {o : Expr} {name : Str} {apos pos : Pos} {args : List Expr} {kws : List Keyword} {env : Env} (hs : supB o = true) (hl : (apos.endLine == pos.line) = true) (hp : args.all plainX = true) (hk : (backToKw pos (keywordEach kws env)).all (·.1.isSome) = true) (hn : Nat.blt (args.length + kws.length) 29 = true) :
    eval (.Call (.Attribute o name apos) args kws pos) env = (do
      let ov ← eval o env
      standAt apos.atName
      let (f, first) ← holding [ov] (getMethod ov name (do return (← importBound o env).getD true))
      callWith pos f first (backTo pos (starEach args env)) (backToKw pos (keywordEach kws env))) := by
  have few : methodCallForm (args.length + kws.length) (backTo pos (starEach args env)) (backToKw pos (keywordEach kws env)) = true := by
    unfold methodCallForm
    have h1 : (backTo pos (starEach args env)).all (fun x => !x.1) = true := by
      rw [List.all_eq_not_any_not]
      have := noStar (es := args) (env := env) (pos := pos) hp
      simp only [Bool.not_not]
      rw [this]
      rfl
    rw [h1, hk]
    have h2 : args.length + kws.length < 29 := Nat.le_of_ble_eq_true hn
    rw [Bool.and_self, Bool.true_and, decide_eq_true_eq]
    split <;> omega
  show (do
    let ov ← attributeBase o name env (eval o env)
    standAt apos.atName
    methodCall o name apos pos env ov (args.length + kws.length) (backTo pos (starEach args env)) (backToKw pos (keywordEach kws env))) = _
  rw [attrB hs]
  unfold methodCall calleeOf methodCallPos
  rw [few, hl]
  rfl
theorem se_metw {m : Nat} {o : Expr} {es : List Expr} {kws : List Keyword} {ks : List Nat} {apos pos : Pos} {fo : Fr → Hv → Rs Va} {ga gk : Fr → Hv → Rs (List Va)} (ho : PE X o (tF M W fo)) (hm : ∀ c g, T.met c m = some g → MOk X.K M c m g ∧ DBl X T M O g) (hr : Room (T.cur - 1) X.A) (tk : Takes X W)
    (he0 : es = [] ∧ (ga = fun _ h => .ok [] h) ∨ ∃ e es', es = e :: es' ∧ PA X (e :: es') (tFA M W ga)) (hp : es.all plainX = true) (hkw : PK X kws (tFA M W gk)) (S : KwS X M kws ks pos) (hsu : supB o = true) (hl : (apos.endLine == pos.line) = true) (hn : Nat.blt (es.length + kws.length) 29 = true) :
    PE X (.Call (.Attribute o (M.an m) apos) es kws pos) (tF M W fun s h => (fo s h).bind fun x h1 => match x with
      | .ref p => (match h1.get p with
        | some (.ins c fs) => (match T.met c m with
          | some g => (match lookF m fs with
            | none => (ga s h1).bind fun vs h2 => (gk s h2).bind fun us h3 => callK T O 0 g ks (.ref p :: vs) us h3
            | some _ => .no)
          | none => .no)
        | _ => .no)
      | _ => .no) := by
  refine ⟨fun pins s σ H Q I ⟨r, sm, h, hs, he, q⟩ => ?_⟩
  have run := ho.run pins s σ H (fun x H1 => ∃ r1 h1 a p c g dx ys, x = .ref p ∧ RF M r1 sm σ ∧ Emb M r1 h1 H1 ∧ r1[a]? = some p ∧ H1 p = some (.ins (M.ca c) dx ys) ∧ ys.lookup (M.an m) = none ∧ T.met c m = some g ∧
    Cn M (XAt W σ) r1 H1 ((ga sm h1).bind fun vs h2 => (gk sm h2).bind fun us h3 => callK T O 0 g ks (.ref a :: vs) us h3) (RV M) Q) I (tF.step hs he q fun r1 v h1 y H1 g1 hs1 he1 z1 q1 => by
      cases v with
      | ref a =>
        have q1 : Cn M (XAt W σ) r1 H1 (match h1.get a with
          | some (.ins c fs) => (match T.met c m with
            | some g => (match lookF m fs with
              | none => (ga sm h1).bind fun vs h2 => (gk sm h2).bind fun us h3 => callK T O 0 g ks (.ref a :: vs) us h3
              | some _ => .no)
            | none => .no)
          | _ => .no) (RV M) Q := q1
        split at q1
        · rename_i c fs e1
          obtain ⟨p, dx, ys, rfl, hp, hh, ls⟩ := get_ins he1 e1 z1
          split at q1
          · rename_i g e2
            split at q1
            · rename_i e3
              exact ⟨r1, h1, a, p, c, g, dx, ys, rfl, hs1, he1, hp, hh, lookF_no M ls e3, e2, q1⟩
            · exact q1.elim
          · exact q1.elim
        · exact q1.elim
      | _ => exact q1.elim)
  refine PySem.W.methodCall_KW (pl := _) (thn run fun u s1 ⟨x, H1, I1, rx, r1, h1, a, p, c, g, dx, ys, ex, hs1, he1, hpa, hh, hno, hmt, q1⟩ => ?_) (callMK hsu hl hp S.all hn)
  subst ex
  obtain rfl : u = Value.ref p := rx
  obtain ⟨K1, D⟩ := hm c g hmt
  refine getmeth_ok I1 hh K1.cl K1.mt hno ?_
  rcases he0 with ⟨rfl, rfl⟩ | ⟨e, es', rfl, ha⟩
  · have t1 : tFA M W gk σ H1 fun zs H3 => ∃ r3 ws h3, Emb M r3 h3 H3 ∧ RV M r3 (.ref a) (.ref p) ∧ RVs M r3 ws zs ∧ Cn M (XAt W σ) r3 H3 (callK T O 0 g ks [.ref a] ws h3) (RV M) Q :=
      tFA.step hs1 he1 q1 fun r3 w h3 y3 H3 g3 hs3 he3 z3 q3 => ⟨r3, w, h3, he3, ⟨p, pre_get g3.pre hpa, rfl⟩, z3, q3⟩
    refine PySem.W.callWith_KW0 (first := [.ref p]) (h₀ := X.base) I.ok.mod.kin K1.mt.kp S.all (thn (hkw.run pos pins s1 σ H1 _ I1 t1) fun uz s2 ⟨zs, H2, I2, rz, r2, ws, h2, he2, z1, z2, q2⟩ => ⟨I2.kIn, ?_⟩) ?_
    · rw [S.ks]
      exact D.runK (us := [.ref p]) (ys := [.ref p]) (vs := [.ref a]) hr tk I2 (.cons (show RelV (V.ref p) (Value.ref p) from rfl) .nil) rz he2 (.cons z1 .nil) z2 q2
    · rw [S.plain]
      rfl
  · have t1 : tFA M W ga σ H1 fun ys H2 => tFA M W gk σ H2 fun zs H3 => ∃ r3 vs ws h3, Emb M r3 h3 H3 ∧ RVs M r3 (.ref a :: vs) (.ref p :: ys) ∧ RVs M r3 ws zs ∧ Cn M (XAt W σ) r3 H3 (callK T O 0 g ks (.ref a :: vs) ws h3) (RV M) Q :=
      tFA.step hs1 he1 q1 fun r2 v h2 y H2 g2 hs2 he2 z2 q2 => tFA.step hs2 he2 q2 fun r3 w h3 y3 H3 g3 hs3 he3 z3 q3 => ⟨r3, v, w, h3, he3, .cons ⟨p, pre_get g3.pre (pre_get g2.pre hpa), rfl⟩ (z2.mono g3.pre), z3, q3⟩
    rw [List.all_cons, Bool.and_eq_true] at hp
    refine PySem.W.callWith_KW (first := [.ref p]) (h₀ := X.base) I.ok.mod.kin K1.mt.kp S.all (thn (ha.run pos pins s1 σ H1 _ I1 t1) fun us s2 ⟨ys2, H2, I2, rv, q2⟩ => thn (hkw.run pos pins s2 σ H2 _ I2 q2) fun uz s3 ⟨zs, H3, I3, rz, r3, vs, ws, h3, he3, z1, z2, q3⟩ => ⟨I3.kIn, ?_⟩) ?_ (starEach_plain es' X.env hp.1)
    · rw [S.ks]
      exact D.runK (us := .ref p :: us) (ys := .ref p :: ys2) hr tk I3 (.cons (show RelV (V.ref p) (Value.ref p) from rfl) rv) rz he3 z1 z2 q3
    · rw [starEach_plain es' X.env hp.1, S.plain]
      show ((false || (backTo pos (starEach es' X.env)).any (·.1)) || false) = false
      rw [noStar hp.2]
      rfl
/-! ### len -/
def rLenI (M : Wd) (T : Tb) (O : Orc) : List V → Hp → VK → Prop := fun xs H Q => ∃ r h v x, xs = [x] ∧ Emb M r h H ∧ RV M r v x ∧ Cn M (fun _ _ _ => False) r H (vLenI T O v h) (RV M) Q
theorem len_fn {prog : Program} {w : World} {A : Around} {E : Value → Shared → Prop} {s : Shared} {p C f : Addr} {ox : Obj} {od : Option Obj} {Q : Value → Shared → Prop} (X : K.In s.heap) (I : PySem.W.InstAt s.heap p ox C od) (hs : PySem.W.findIn K (.ref C) "__len__" = some (some (.ref f))) (hf : PySem.W.typeIn K (.ref f) = some (.type "function"))
    (hc : wpAny (model prog w) A.in1 (call (.ref f) [.ref p]) (fun v s' => ∃ n u, v = .int n u ∧ 0 ≤ n ∧ n < 2 ^ 63 ∧ Q (.int n s'.toks) { s' with toks := s'.toks + 1 }) E s) : wpAny (model prog w) A (call (.builtin "len") [.ref p]) Q E s := by
  refine Calls.call_function_entry kind_len plain_len entry_len (args_len1 _) ?_
  unfold Builtin.«len»
  refine wpAny_bind (m := oneArg "len" _) (wpAny_pure (wpAny_bind (m := callSpecial? (.ref p) (Str.ofString "__len__")) (PySem.W.special_fn X I hs hf (wpAny_mono hc (fun v s' z => ?_) fun _ _ y => y))))
  obtain ⟨n, u, rfl, h0, h1, hq⟩ := z
  refine wpAny_bind (wpAny_holding (wpAny_pure (wpAny_bind (wpAny_letGo ?_))))
  show wpAny _ _ (if n < 0 then _ else _) _ _ _
  rw [if_neg (show ¬ n < 0 by omega)]
  show wpAny _ _ (if n ≥ 2 ^ 63 then _ else _) _ _ _
  rw [if_neg (show ¬ n ≥ 2 ^ 63 by omega)]
  exact wpAny_bind (wpAny_mkInt (wpAny_pure ⟨_, rfl, hq⟩))
theorem c_lenI (hl : M.an T.lenM = "__len__") (hm : ∀ c g, T.met c T.lenM = some g → MOk X.K M c T.lenM g ∧ DBl X T M O g) (hr : Room (T.cur - 1) X.A) : CallR X (.builtin "len") (rLenI M T O) := by
  intro pins s σ H xs us Q I rv ⟨r, h, v, x, ex, he, z, q⟩
  subst ex
  have plain : Cn M (fun _ _ _ => False) r H (opBlt .len [v] h) (RV M) Q → wpAny (model X.prog X.w) X.A (call (.builtin "len") us) (EP X pins σ Q) X.xe s := fun q => c_len pins s σ H [x] us Q I rv (s_len X.K _ r h H [v] [x] Q he (.cons z .nil) q)
  cases v with
  | ref a =>
    have q : Cn M (fun _ _ _ => False) r H (match h.get a with
      | some (.ins c _) => (match T.met c T.lenM with
        | some g => (okO (callF T O 1 g [.ref a] h)).bind lenV
        | none => .no)
      | _ => bLen h (.ref a)) (RV M) Q := q
    split at q
    · rename_i c fs e1
      obtain ⟨p, dx, ys, rfl, hp, hh, ls⟩ := get_ins he e1 z
      split at q
      · rename_i g e2
        obtain ⟨K1, D⟩ := hm c g e2
        cases rv with
        | @cons _ u _ us ru rt =>
          cases rt
          obtain rfl : u = Value.ref p := ru
          obtain ⟨mA, O1, _, _, _, _⟩ := ins_get I.hok hh
          obtain ⟨od, J, _⟩ := O1.look
          have q2 : Cn M (fun _ _ _ => False) r H (callF T O 1 g [.ref a] h) (RV M) fun v H' => ∃ n : Int, v = .int n ∧ 0 ≤ n ∧ n < 2 ^ 63 ∧ Q (.int n) H' := by
            revert q
            cases callF T O 1 g [.ref a] h with
            | no => exact fun q => q.elim
            | ex c f h2 => exact fun q => q.elim
            | ok v h2 =>
              intro q r' y H' g1 z1
              have q : Cn M (fun _ _ _ => False) r H (lenV v h2) (RV M) Q := q
              cases v with
              | int i =>
                have q : Cn M (fun _ _ _ => False) r H (match decide (0 ≤ i) && decide (i < 1000000000) with
                  | true => .ok (.int i) h2
                  | false => .no) (RV M) Q := q
                cases b : decide (0 ≤ i) && decide (i < 1000000000) with
                | false =>
                  rw [b] at q
                  exact q.elim
                | true =>
                  rw [b] at q
                  rw [Bool.and_eq_true, decide_eq_true_eq, decide_eq_true_eq] at b
                  obtain rfl : y = .int i := z1
                  exact ⟨i, rfl, b.1, by omega, Cn.okG (v := Va.int i) q g1 rfl⟩
              | _ => exact q.elim
          obtain ⟨lt, j, hj, hl2, q3⟩ := callF_ok q2
          obtain ⟨fd, ps, F, hd, _⟩ := (D (by omega)).ex
          obtain ⟨ds, dvs, hb, hv, zd⟩ := (hd j hj).ex
          have sp := spO_at (g := O g) (n := T.ar g) (vs := [.ref a]) (ys := [.ref p]) he (.cons z .nil) zd hl2 q3
          have rr : Vals [V.ref p] [Value.ref p] := .cons rfl .nil
          have r2 := Vals.append rr hv
          have ln : ([Value.ref p] ++ ds).length = ps.length := by
            rw [← r2.length]
            exact F.len _ _ _ _ sp
          refine len_fn (C := M.ca c) (f := M.fa g) I.kIn J (by have := K1.mt.at_; rw [hl] at this; exact this) (beq_iff_eq.mp K1.mt.fn) ?_
          refine wpAny_call (codeAny_mono (F.run X.A.in1 X.stack s H ⟨[.ref p], []⟩ ([.ref p] ++ ds) _ _ _ (room_of hr lt).in1 I.env0.in1 (hb _ [.ref p] I.kIn ln) r2 sp) fun res s' hq => ?_)
          cases res with
          | error e => exact (show False from by
              obtain ⟨_, _, _, _, _, _, _, _, _, _, _, _, z⟩ := hq
              exact z).elim
          | ok fl =>
            cases fl with
            | ret w =>
              obtain ⟨v, H', I3, rv3, n, ev, n0, n1, q4⟩ := I.after hq
              subst ev
              obtain ⟨t, rfl⟩ := rv3
              exact ⟨n, t, rfl, n0, n1, ⟨V.int n, H', I3.tok _, ⟨_, rfl⟩, q4⟩⟩
            | next => exact hq.elim
            | brk => exact hq.elim
            | cont => exact hq.elim
      · exact q.elim
    · exact plain q
  | _ => exact plain q
theorem se_lenI {p pos : Pos} {e : Expr} {f : Fr → Hv → Rs Va} (hl : M.an T.lenM = "__len__") (hm : ∀ c g, T.met c T.lenM = some g → MOk X.K M c T.lenM g ∧ DBl X T M O g) (hr : Room (T.cur - 1) X.A) (hg : Gl X "len") (hmg : X.mg "len" = none) (he : PE X e (tF M W f)) (hp : plainX e = true) :
    PE X (.Call (.Name "len" p) [e] [] pos) (tF M W fun s h => (f s h).bind fun x h1 => vLenI T O x h1) :=
  PE.imp (pe_callB (c_lenI hl hm hr) hg hmg (by rfl) (pa_cons he pa_nil (starEach_plain [] X.env hp)) (he := starEach_plain [] X.env hp)) fun σ H Q ⟨r, s, h, hs, hem, q⟩ => tF.step hs hem q fun r1 v h1 y H1 g1 hs1 he1 z1 q1 => ⟨r1, h1, v, y, rfl, he1, z1, by
    have noex : ∀ c f h2, vLenI T O v h1 ≠ .ex c f h2 := fun c f h2 e => by
      have go : ∀ (x : Rs Va), (okO x).bind lenV ≠ .ex c f h2 := fun x => by
        cases x with
        | ok v h => cases v with
          | int i =>
            show (match decide (0 ≤ i) && decide (i < 1000000000) with
              | true => Rs.ok (Va.int i) h
              | false => .no) ≠ _
            cases decide (0 ≤ i) && decide (i < 1000000000) <;> exact nofun
          | _ => exact nofun
        | _ => exact nofun
      have bl0 : ∀ v, bLen h1 v ≠ .ex c f h2 := fun v => by
        unfold bLen
        split
        · unfold gd
          split <;> exact nofun
        · split
          · exact nofun
          · exact nofun
          · split <;> exact nofun
          · exact nofun
        · exact nofun
      revert e
      unfold vLenI
      split
      · split
        · split
          · exact go _
          · exact nofun
        · exact bl0 _
      · exact bl0 _
    revert q1 noex
    cases vLenI T O v h1 with
    | ok a b => exact fun q _ => q
    | ex a b c => exact fun _ k => absurd rfl (k a b c)
    | no => exact fun q _ => q⟩
end
end MP
set_option linter.all false
set_option maxRecDepth 100000
set_option maxHeartbeats 4000000
/-! A lambda handed to a def that tells what it gives, or the tag and the field of what it raises. -/
namespace MP
open PySem PySem.Spec PyProof.Rows L2
/-! ### what a def reads off an exception: from the text -/
def cFxR (an : List Str) (e tgn : Str) : Nat → Expr → Option FxR
  | 0, _ => none
  | n + 1, x => match x with
    | .Attribute (.Name y _) f _ => guardO (decide (y = e)) ((ixS f an 0).map .fld)
    | .Constant .none _ _ => some .non
    | .IfExp (.Compare (.Attribute (.Name y _) t _) [.Eq] [.Constant (.str z) _ _] _) a b _ => guardO (decide (y = e) && decide (t = tgn)) (bind2 (cFxR an e tgn n a) (cFxR an e tgn n b) (.ite z.cps.toList))
    | _ => none
def cStr1 : Expr → Option (List Nat)
  | .Constant (.str z) _ _ => some z.cps.toList
  | _ => none
def cFxB (an : List Str) (e tgn : Str) : List Stmt → Option (List (List (List Nat) × FxR) × FxR)
  | [] => none
  | st :: rest => match st with
    | .Return (some r) _ => (match rest with
      | [] => (cFxR an e tgn 20 r).map fun r => ([], r)
      | _ => none)
    | .If (.Compare (.Attribute (.Name y _) t _) [.In] [.Tuple cs _ _] _) [.Return (some r) _] [] _ => guardO (decide (y = e) && decide (t = tgn)) (match mapO cStr1 cs, cFxR an e tgn 20 r, cFxB an e tgn rest with
      | some ts, some r, some p => some ((ts, r) :: p.1, p.2)
      | _, _, _ => none)
    | _ => none
section
variable {X : Cx} {M : Wd} {T : Tb} {r r' : List Addr} {h h' : Hv} {H H' : Hp} {a C dd : Addr} {oe : Obj} {c tg i : Nat} {fs : List (Nat × Va)} {e tgn : Str} {an : List Str}
/-- the handled exception, pinned -/
structure XcA (X : Cx) (a : Addr) (oe : Obj) (C dd : Addr) : Prop where
  pn : (a, oe) ∈ X.pn
  z : Zc (.ref C) (some dd) oe
  f : ∃ vs, oe.data = .fields vs
theorem pe_xa {n : Str} {o : Expr} {te : TE} {pos : Pos} (xa : XcA X a oe C dd) (xf : XfC X.K C) (hno : PySem.W.findIn X.K (.ref C) n = some none) (he : PE X o te) (hb : supB o = true) :
    PE X (.Attribute o n pos) (fun σ H Q => te σ H fun x H1 => x = .ref a ∧ ∃ ys v, H1 dd = some (.xd ys) ∧ ys.lookup n = some v ∧ Q v H1) := by
  refine ⟨fun pins s σ H Q I h => attr_of (attrB hb) (thn (he.run pins s σ H _ I h) fun u s1 ⟨x, H1, I1, rx, ex, ys, v, ea, l, q⟩ => ?_)⟩
  subst ex
  obtain rfl : u = Value.ref a := rx
  have ha := (I1.pin (a, oe) (List.mem_append_left _ xa.pn)).1
  obtain ⟨vs, hd⟩ := xa.f
  obtain ⟨mA, hns, hr⟩ := (show ObjOk X.prog X.w H1 s1.heap dd (.xd ys) from I1.hok dd _ ea)
  obtain ⟨od, ho, hl⟩ := lookIn_ns hns
  obtain ⟨w, hw, rw_⟩ := RelO.some_of (v := v) (o := mA n) (by rw [← l]; exact hr n)
  have J : PySem.W.InstAt s1.heap a oe C (some od) := ⟨ha, xa.z.1, by unfold PySem.W.notCls; rw [hd] <;> rfl, by rw [xa.z.2]; exact ho⟩
  exact HandSPX.exc_get I1.kIn J xf.ga xf.gg xf.exC (PySem.W.findObj_own xf.hdC hno rfl (by rw [hl, hw])) (handed_of rw_) ⟨v, H1, I1.tok _, rw_, q⟩
/-- the tracked state beside it -/
def XSt (M : Wd) (dd : Addr) (fs : List (Nat × Va)) (r : List Addr) (h : Hv) (H : Hp) : Prop := Emb M r h H ∧ ∃ ys, H dd = some (.xd ys) ∧ RFs M r fs ys
theorem XSt.gro (s : XSt M dd fs r h H) (g : Gro M r H h' r' H') : XSt M dd fs r' h' H' := by
  obtain ⟨e, ys, e1, ls⟩ := s
  refine ⟨g.emb, ys, g.fre dd _ e1 (fun z => ?_) (fun _ => nofun), ls.mono g.pre⟩
  obtain ⟨u, e2, no⟩ := e.tr dd z
  rw [e1] at e2
  cases e2
  exact no.2 ys rfl
abbrev Fx : XK := fun _ _ _ => False
def tXe (M : Wd) (dd a : Addr) (fs : List (Nat × Va)) (i : Nat) (f : Hv → Rs Va) : TE := fun σ H Q => ∃ r h, σ[i]? = some (some (.ref a)) ∧ XSt M dd fs r h H ∧ Cn M Fx r H (f h) (RV M) Q
/-- what is known where such a text stands -/
structure XfA (X : Cx) (M : Wd) (T : Tb) (a : Addr) (oe : Obj) (dd : Addr) (c i tg : Nat) (e tgn : Str) (an : List Str) : Prop where
  xa : XcA X a oe (M.ca c) dd
  xf : ∀ f, T.xfl c f = true → XfC X.K (M.ca c) ∧ PySem.W.findIn X.K (.ref (M.ca c)) (M.an f) = some none
  N : X.N[i]? = some e
  vis : Vis X.env.scope e
  ok : okName e = true
  an : ∀ x n, ixS x an 0 = some n → M.an n = x
  tn : tgn = M.an tg
  un : X.A.units + 65 < cLine
theorem xfv_ok {E : XK} {f : Nat} {Q : VK} (s : XSt M dd fs r h H) (q : Cn M E r H (xfv T c f fs h) (RV M) Q) : T.xfl c f = true ∧ ∃ v ys y, lookF f fs = some v ∧ H dd = some (.xd ys) ∧ ys.lookup (M.an f) = some y ∧ RV M r v y ∧ Q y H := by
  unfold xfv at q
  split at q
  · rename_i e1
    obtain ⟨v, e2, q⟩ := toV_ok q
    obtain ⟨em, ys, e3, ls⟩ := s
    obtain ⟨y, e4, z⟩ := lookF_ok M ls e2
    exact ⟨e1, v, ys, y, e2, e3, e4, z, q.ok em z⟩
  · exact q.elim
theorem xfv_no {f : Nat} (e1 : T.xfl c f = false) : xfv T c f fs h = .no := by
  unfold xfv
  rw [e1]
theorem xe_no {x : Expr} {f : Hv → Rs Va} (e1 : ∀ h, f h = .no) : PE X x (tXe M dd a fs i f) := ⟨fun _ _ _ _ _ _ ⟨r, h, _, _, q⟩ => by rw [e1] at q; exact q.elim⟩
theorem xfv_eq {f : Nat} {v : Va} (e1 : T.xfl c f = true) (e2 : lookF f fs = some v) : xfv T c f fs h = .ok v h := by
  unfold xfv
  rw [e1, e2]
  rfl
/-- a field read -/
theorem xrd (A : XfA X M T a oe dd c i tg e tgn an) {f : Nat} (e1 : T.xfl c f = true) {p1 p2 : Pos} : PE X (.Attribute (.Name e p1) (M.an f) p2) (fun σ H Q => σ[i]? = some (some (.ref a)) ∧ ∃ ys y, H dd = some (.xd ys) ∧ ys.lookup (M.an f) = some y ∧ Q y H) := by
  obtain ⟨k1, k2⟩ := A.xf f e1
  obtain ⟨n1, n2⟩ := okName_ok A.ok
  exact PE.imp (pe_xa A.xa k1 k2 (pe_var A.N A.vis n1 n2) rfl) fun σ H Q ⟨e0, ys, y, e2, e3, q⟩ => ⟨_, e0, rfl, ys, y, e2, e3, q⟩
theorem str_mk (z : Str) : (⟨z.cps.toList.toArray⟩ : Str) = z := by simp
theorem xcmp {o : CO} {v w : Va} {x y : V} {k : Bool → Hv → Rs Va} {Q : VK} {Q' : Bool → Hp → Prop} (s : XSt M dd fs r h H) (z1 : RV M r v x) (z2 : RV M r w y) (K : PySem.W.Frag) (q : Cn M Fx r H ((opCmp o v w h).bind k) (RV M) Q)
    (i : ∀ b r2 h2 H2, XSt M dd fs r2 h2 H2 → Gro M r H h2 r2 H2 → Cn M Fx r2 H2 (k b h2) (RV M) Q → Q' b H2) : rC K o x y H fun u H2 => ∃ b, u = .bl b ∧ Q' b H2 := by
  refine s_cmp K o Fx r h H v w x y _ s.1 z1 z2 ?_
  show Cn M Fx r H (bl (opCmp o v w h)) (RV M) _
  revert q
  cases opCmp o v w h with
  | no => exact fun q => q.elim
  | ex c f h2 => exact fun q => q
  | ok b h2 =>
    intro q r2 u H2 g z
    cases z
    exact ⟨b, rfl, i b r2 h2 H2 (s.gro g) g (q.later g)⟩
theorem xr_ok (A : XfA X M T a oe dd c i tg e tgn an) : ∀ (n : Nat) (x : Expr) (rr : FxR), cFxR an e tgn n x = some rr → PE X x (tXe M dd a fs i (evFxR T c tg fs rr))
  | 0, _, _, hx => by cases hx
  | n + 1, x, rr, hx => by
    unfold cFxR at hx
    split at hx
    · rename_i y p1 f p2
      obtain ⟨g, hx⟩ := guardO_some hx
      obtain ⟨k, ek, rfl⟩ := map_some hx
      have g := of_decide_eq_true g
      subst g
      have ef := A.an _ _ ek
      subst ef
      cases hc : T.xfl c k with
      | false => exact xe_no fun h => xfv_no hc
      | true =>
        exact PE.imp (xrd A hc) fun σ H Q ⟨r, h, e0, st, q⟩ => by
          obtain ⟨_, v, ys, y, _, e3, e4, z, q⟩ := xfv_ok st q
          exact ⟨e0, ys, y, e3, e4, q⟩
    · cases hx
      exact PE.imp pe_non fun σ H Q ⟨r, h, e0, st, q⟩ => Cn.ok (v := Va.non) q st.1 rfl
    · rename_i y p1 t p2 z j p3 p4 xa xb p5
      obtain ⟨g, hx⟩ := guardO_some hx
      obtain ⟨ra, rb, ea, eb, rfl⟩ := bind2_some hx
      rw [Bool.and_eq_true, decide_eq_true_eq, decide_eq_true_eq] at g
      obtain ⟨g1, g2⟩ := g
      have g1 := g1.symm
      subst g1
      rw [g2, A.tn]
      cases hc : T.xfl c tg with
      | false => exact xe_no fun h => (congrArg (fun z => Rs.bind z _) (xfv_no hc)).trans rfl
      | true =>
        refine PE.imp (pe_ifExp (pt_cmpR (o_cmp A.un .eq) (xrd A hc) pe_str rfl) (xr_ok A n xa ra ea) (xr_ok A n xb rb eb)) fun σ H Q ⟨r, h, e0, st, q⟩ => ?_
        have q : Cn M Fx r H ((xfv T c tg fs h).bind fun x h1 => (opCmp .eq x (.str z.cps.toList) h1).bind fun k h2 => match k with
          | true => evFxR T c tg fs ra h2
          | false => evFxR T c tg fs rb h2) (RV M) Q := q
        obtain ⟨v, e2⟩ : ∃ v, lookF tg fs = some v := by
          cases el : lookF tg fs with
          | some v => exact ⟨v, rfl⟩
          | none =>
            unfold xfv at q
            rw [hc, el] at q
            exact q.elim
        rw [xfv_eq hc e2] at q
        obtain ⟨em, ys, e3, ls⟩ := id st
        obtain ⟨y, e4, zv⟩ := lookF_ok M ls e2
        refine ⟨e0, ys, y, e3, e4, ?_⟩
        refine xcmp (M := M) (w := .str z.cps.toList) (Q' := fun b H2 => if b = true then tXe M dd a fs i (evFxR T c tg fs ra) σ H2 Q else tXe M dd a fs i (evFxR T c tg fs rb) σ H2 Q) st zv (show V.str z = V.str ⟨z.cps.toList.toArray⟩ by rw [str_mk]) X.K (show Cn M Fx r H ((opCmp .eq v (.str z.cps.toList) h).bind fun k h2 => match k with
          | true => evFxR T c tg fs ra h2
          | false => evFxR T c tg fs rb h2) (RV M) Q from q) fun b r2 h2 H2 st2 g2 q2 => ?_
        cases b with
        | true => exact (if_pos rfl).mpr ⟨r2, h2, e0, st2, q2⟩
        | false => exact (if_neg (by decide)).mpr ⟨r2, h2, e0, st2, q2⟩
    · cases hx
theorem pa_strs : ∀ {cs : List Expr} {ts : List (List Nat)}, mapO cStr1 cs = some ts → PA X cs (fun _ H Q => Q (ts.map fun t => V.str ⟨t.toArray⟩) H)
  | [], ts, hx => by
    cases hx
    exact PA.imp pa_nil fun σ H Q q => q
  | x :: cs, ts, hx => by
    obtain ⟨y, ys, e1, e2, rfl⟩ := mapO_cons hx
    unfold cStr1 at e1
    split at e1
    · rename_i z j p
      cases e1
      refine PA.imp (pa_cons pe_str (pa_strs e2) (starEach_plain cs X.env rfl)) fun σ H Q q => ?_
      have q : Q (V.str ⟨z.cps.toList.toArray⟩ :: ys.map fun t => V.str ⟨t.toArray⟩) H := q
      rw [str_mk] at q
      exact q
    · cases e1
theorem strs_rel {r : List Addr} : ∀ ts : List (List Nat), RVs M r (ts.map Va.str) (ts.map fun t => V.str ⟨t.toArray⟩)
  | [] => .nil
  | _ :: ts => .cons rfl (strs_rel ts)
theorem xb_ok (A : XfA X M T a oe dd c i tg e tgn an) : ∀ (b : List Stmt) (p : List (List (List Nat) × FxR) × FxR), cFxB an e tgn b = some p → PSs X b (fun D σ H => ∃ r h, σ[i]? = some (some (.ref a)) ∧ XSt M dd fs r h H ∧ Cn M Fx r H (evFxI T c tg fs p.2 p.1 h) (RV M) D.rt)
  | [], p, hx => by cases hx
  | st :: rest, p, hx => by
    unfold cFxB at hx
    split at hx
    · rename_i x pos
      split at hx
      · obtain ⟨rr, er, rfl⟩ := map_some hx
        exact PSs.imp (pss_one (ps_ret (xr_ok (fs := fs) A 20 x rr er))) fun D σ H ⟨r, h, e0, s, q⟩ => ⟨r, h, e0, s, q⟩
      · cases hx
    · rename_i y p1 t p2 cs kk p3 p4 x p5 p6
      obtain ⟨g, hy⟩ := guardO_some hx
      rw [Bool.and_eq_true, decide_eq_true_eq, decide_eq_true_eq] at g
      obtain ⟨g1, g2⟩ := g
      have g1 := g1.symm
      subst g1
      rw [g2, A.tn]
      clear hx
      split at hy
      · rename_i ts rr p' e1 e2 e3
        obtain rfl := Option.some.inj hy
        have ih := xb_ok A rest p' e3
        cases hc : T.xfl c tg with
        | false =>
          refine ⟨fun pins s σ H D I ⟨r, h, e0, st, q⟩ => False.elim ?_⟩
          have q : Cn M Fx r H ((xfv T c tg fs h).bind _) (RV M) D.rt := q
          rw [xfv_no hc] at q
          exact q
        | true =>
          refine PSs.imp (pss_cons (ps_if (pt_cmpR (o_cmp A.un .isin) (xrd A hc) (pe_tup (pa_strs e1)) rfl) (pss_one (ps_ret (xr_ok (fs := fs) A 20 x rr e2))) pss_nil) ih) fun D σ H ⟨r, h, e0, st, q⟩ => ?_
          have q : Cn M Fx r H ((xfv T c tg fs h).bind fun x h1 => gd (Nat.ble ts.length Bnd) ((opCmp .isin x (.ref h1.n) (h1.new (.tup (ts.map Va.str)))).bind fun k h2 => match k with
            | true => evFxR T c tg fs rr h2
            | false => evFxI T c tg fs p'.2 p'.1 h2)) (RV M) D.rt := q
          cases el : lookF tg fs with
          | none =>
            unfold xfv at q
            rw [hc, el] at q
            exact q.elim
          | some v =>
            obtain ⟨em, ys, e3', ls⟩ := id st
            obtain ⟨y, e4, zv⟩ := lookF_ok M ls el
            rw [xfv_eq hc el] at q
            have q : Cn M Fx r H (gd (Nat.ble ts.length Bnd) ((opCmp .isin v (.ref h.n) (h.new (.tup (ts.map Va.str)))).bind fun k h2 => match k with
              | true => evFxR T c tg fs rr h2
              | false => evFxI T c tg fs p'.2 p'.1 h2)) (RV M) D.rt := q
            obtain ⟨hb, q⟩ := q.gd
            refine ⟨e0, ys, y, e3', e4, by rw [List.length_map]; exact bnd_line hb, fun p hp => ?_⟩
            have ga := st.1.alloc (o := .tup (ts.map Va.str)) hp ⟨_, rfl, strs_rel ts⟩
            have hn : RV M (r ++ [p]) (.ref h.n) (.ref p) := ⟨p, by rw [← st.1.len]; exact get_last r p, rfl⟩
            refine xcmp (Q' := fun b H2 => if b = true then tXe M dd a fs i (evFxR T c tg fs rr) σ H2 D.rt else ∃ r h, σ[i]? = some (some (.ref a)) ∧ XSt M dd fs r h H2 ∧ Cn M Fx r H2 (evFxI T c tg fs p'.2 p'.1 h) (RV M) D.rt) (st.gro ga) (zv.mono ga.pre) hn X.K (q.later ga) fun b r2 h2 H2 st2 g2 q2 => ?_
            cases b with
            | true => exact (if_pos rfl).mpr ⟨r2, h2, e0, st2, q2⟩
            | false => exact (if_neg (by decide)).mpr ⟨r2, h2, e0, st2, q2⟩
      · exact absurd hy nofun
    · cases hx
end
end MP
set_option linter.all false
set_option maxRecDepth 100000
set_option maxHeartbeats 4000000
/-! _law_why: the def that gets a lambda. -/
namespace MP
open PySem PySem.Spec PyProof.Rows L2
/-- its text -/
structure WyN where
  a : Str
  told : Str
  e : Str
  x1 : Str
  x2 : Str
  x3 : Str
  tgn : Str
  lf : Str
def whyN : List Stmt → Option WyN
  | [.Try [.Assign [.Name told _] (.Call (.Name a _) [] [] _) _] [.ExceptHandler (some (.Tuple [.Name x1 _, .Name x2 _, .Name x3 _] _ _)) (some e) [.Return (some (.Tuple [.Attribute (.Name e2 _) tgn _, .Call (.Name lf _) [.Name e3 _] [] _] _ _)) _] _] [] [] _, .Return (some (.Tuple [.Constant (.str em) _ _, .Name t2 _] _ _)) _] =>
    guardO (decide (e2 = e) && decide (e3 = e) && decide (t2 = told) && em.cps.toList.isEmpty) (some ⟨a, told, e, x1, x2, x3, tgn, lf⟩)
  | _ => none
/-- what it makes of the lambda's reading -/
def wWhy (M : Wd) (T : Tb) (Q : VK) : XK := fun cls d H => ∃ c r h fs dd, cls = .ref (M.ca c) ∧ d = some dd ∧ XSt M dd fs r h H ∧ Cn M Fx r H (whyX T c fs h) (RV M) Q
def TWhy (M : Wd) (T : Tb) : (XK → Hp → VK → Prop) → Hp → VK → Prop := fun tl H Q => tl (wWhy M T Q) H fun v H' => ∀ p, H' p = none → Q (.ref p) (upd H' p (.tup [.str ⟨#[]⟩, v]))
/-- the reader of fields -/
def spFx (M : Wd) (T : Tb) : Addr × Obj → Sp := fun p vs H Q _ => ∃ c dd r h fs wp, T.wfx = some wp ∧ vs = [.ref p.1] ∧ Zc (.ref (M.ca c)) (some dd) p.2 ∧ (∃ ws, p.2.data = .fields ws) ∧ XSt M dd fs r h H ∧ Cn M Fx r H (evFxI T c wp.tg fs wp.el wp.is h) (RV M) Q
section
variable {X : Cx} {M : Wd} {T : Tb} {P : Program} {w : World} {K : PySem.W.Frag} {mg : Str → Option Value} {base : Heap}
theorem fx_fnA {x qual : Str} {params : Arguments} {body : List Stmt} {scope : Scope} {dvs : List V} {kws : List (Str × V)} {g : Addr} {fd : FuncData} {e : Str} {an : List Str} {wp : FxP} {p : List (List (List Nat) × FxR) × FxR} {N : List Str}
    (F : FunD K x qual params body scope dvs kws g fd) (S : FnScope N [e] scope) (hn : N[0]? = some e) (tok : TOk T M K) (han : ∀ x n, ixS x an 0 = some n → M.an n = x) (ok : okName e = true) (hw : T.wfx = some wp) (hp : cFxB an e (M.an wp.tg) body = some (wp.is, wp.el)) : FnA P w K mg base (L2.CX P w) 1 g fd [e] (spFx M T) := by
  refine FunD.okA (k := 0) F S (fun p vs H Q E h => ?_) fun cdv A outer s H vs Q E p hr h => ?_
  · obtain ⟨_, _, _, _, _, _, _, rfl, _⟩ := h
    rfl
  · obtain ⟨c, dd, r, h, fs, wp', e1, rfl, z, f, st, q⟩ := h
    rw [hw] at e1
    cases e1
    refine ⟨_, xb_ok (X := L2H.cxH (L2.CX P w) P w K mg base N qual scope g cdv A outer s H E p) (fs := fs) (c := c) (tg := wp.tg) (i := 0) (a := p.1) (oe := p.2) (dd := dd) (e := e) (tgn := M.an wp.tg) (an := an) ⟨⟨List.mem_singleton.mpr rfl, z, f⟩, fun f e => tok.xfl c f e, hn, ?_, ok, han, rfl, ?_⟩ body _ hp, ⟨r, h, ?_, st, q⟩⟩
    · rcases S.par e (List.mem_singleton.mpr rfl) with k | k
      · exact .inl k
      · exact .inr (.inl k)
    · have := hr.un
      show (A.deeper (envOfC qual scope s.heap.objs.size g cdv)).units + 65 < cLine
      omega
    · have hN : 0 < N.length := by
        cases N with
        | nil => cases hn
        | cons _ _ => exact Nat.succ_pos _
      rfl
/-- what is known of it -/
structure WhyOk (T : Tb) (M : Wd) (P : Program) (w : World) (K : PySem.W.Frag) (mg : Str → Option Value) (base : Heap) (x : Str) : Prop where
  ex : ∃ (a : Str) (g : Addr) (pg : Arguments) (bg : List Stmt) (sg : Scope) (dV kV doc pm cdv ct oc : Value) (an od : Option Addr) (osl : Array (Option Value)) (Ng : List Str), mg x = some (.ref g) ∧ PySem.W.keepIn K (.ref g) = true ∧
    K.lookup g = some ⟨oc, od, .func (PySem.W.fnOf x x pg bg sg dV kV doc pm an cdv ct), osl⟩ ∧ PySem.W.codeIn K cdv x = true ∧ L2.Binds K (PySem.W.fnOf x x pg bg sg dV kV doc pm an cdv ct) [a] [] ∧ FnScope Ng [a] sg ∧ Ng[0]? = some a ∧ Vis sg a ∧ okName x = true ∧ okName a = true ∧
    ∀ X : Cx, X.prog = P → X.w = w → X.K = K → X.mg = mg → X.base = base → Room 3 X.A → ∀ q, LamX.GivesTo X Ng x sg g cdv bg a q (TWhy M T)
theorem why_gives {bg : List Stmt} {n : WyN} {Ng : List Str} {x q : Str} {sg : Scope} {g gf : Addr} {cdg : Value} {c1 c2 c3 : Addr} {fdf : FuncData} {ef : Str} {wp : FxP} (hb : whyN bg = some n) (hN : Ng = [n.a, n.told, n.e]) (S : FnScope Ng [n.a] sg) (hlt : sg.names.lookup n.told = some .local) (hle : sg.names.lookup n.e = some .local)
    (g1 : sg.names.lookup n.x1 = some .globalImplicit) (g2 : sg.names.lookup n.x2 = some .globalImplicit) (g3 : sg.names.lookup n.x3 = some .globalImplicit) (g4 : sg.names.lookup n.lf = some .globalImplicit) (ok : (okName n.a && okName n.told && okName n.e && okName n.x1 && okName n.x2 && okName n.x3 && okName n.lf) = true)
    (m1 : X.mg n.x1 = some (.ref c1)) (m2 : X.mg n.x2 = some (.ref c2)) (m3 : X.mg n.x3 = some (.ref c3)) (m4 : X.mg n.lf = some (.ref gf)) (k4 : PySem.W.keepIn X.K (.ref gf) = true) (F : FnA X.prog X.w X.K X.mg X.base (L2.CX X.prog X.w) 1 gf fdf [ef] (spFx M T)) (hbf : Binds X.K fdf [ef] [])
    (hc : ∀ c b, T.cat c = some b → PySem.W.exmAny X.K (.ref (M.ca c)) [.ref c1, .ref c2, .ref c3] = some b) (hw : T.wfx = some wp) (tok : TOk T M X.K) (ht : n.tgn = M.an wp.tg) (hr : Room 3 X.A) : LamX.GivesTo X Ng x sg g cdg bg n.a q (TWhy M T) := by
  intro f c' s H Q tl act hco h
  have nd := S.nd
  unfold whyN at hb
  split at hb
  · rename_i told p1 a p2 p3 p4 x1 q1 x2 q2 x3 q3 kk tp e e2 r1 tgn r2 lf r3 e3 r4 r5 k2 r6 r7 hp tpos em j s1 t2 s2 k3 s3 s4
    obtain ⟨gd0, hb⟩ := guardO_some hb
    obtain rfl := Option.some.inj hb
    simp only [Bool.and_eq_true, decide_eq_true_eq] at gd0 ok
    obtain ⟨⟨⟨ge2, ge3⟩, gt2⟩, gem⟩ := gd0
    dsimp only at *
    subst ge2 ge3 gt2 hN
    obtain ⟨⟨⟨⟨⟨⟨o1, o2⟩, o3⟩, o4⟩, o5⟩, o6⟩, o7⟩ := ok
    have hem : em = ⟨#[]⟩ := by
      have e0 : em.cps.toList = [] := List.isEmpty_iff.mp gem
      have e1 := str_mk em
      rw [e0] at e1
      exact e1.symm
    let Y := (cxOf C8.CX0 X.prog X.w X.K X.mg X.base [a, t2, e3] x sg g cdg X.A X.stack s H C8.E0).nox
    have hT : Tst Y (.Tuple [.Name x1 q1, .Name x2 q2, .Name x3 q3] kk tp) (fun cls b => PySem.W.exmAny X.K cls [.ref c1, .ref c2, .ref c3] = some b) := tst3 ⟨g1, (okName_ok o4).1, .inl m1⟩ ⟨g2, (okName_ok o5).1, .inl m2⟩ ⟨g3, (okName_ok o6).1, .inl m3⟩
    let tsu : Addr → Value → Option Addr → TS := fun ae cls d D σ H => ∃ c r h fs dd, cls = .ref (M.ca c) ∧ d = some dd ∧ σ[2]? = some (some (.ref ae)) ∧ XSt M dd fs r h H ∧ Cn M Fx r H ((xfv T c wp.tg fs h).bind fun t h1 => (evFxI T c wp.tg fs wp.el wp.is h1).bind fun v h2 => newOb (.tup [t, v]) h2) (RV M) D.rt
    have hsu : ∀ (ae : Addr) (oe : Obj) (cls : Value) (d : Option Addr) (pn : List (Addr × Obj)), Zc cls d oe → (∃ vs, oe.data = .fields vs) → PSs (Y.suite ae ((ae, oe) :: pn)) [.Return (some (.Tuple [.Attribute (.Name e3 r1) tgn r2, .Call (.Name lf r3) [.Name e3 r4] [] r5] k2 r6)) r7] (tsu ae cls d) := fun ae oe cls d pn hz hf => by
      refine ⟨fun pins s' σ H' D I ⟨c, r, h, fs, dd, ec, ed, e0, st, q⟩ => ?_⟩
      subst ec ed
      cases hx : T.xfl c wp.tg with
      | false =>
        rw [xfv_no hx] at q
        exact q.elim
      | true =>
        obtain ⟨xf1, xf2⟩ := tok.xfl c _ hx
        have xa : XcA (Y.suite ae ((ae, oe) :: pn)) ae oe (M.ca c) dd := ⟨List.mem_cons_self, hz, hf⟩
        have hv : Vis (Y.suite ae ((ae, oe) :: pn)).env.scope e3 := .inl hle
        have pv : ∀ p, PE (Y.suite ae ((ae, oe) :: pn)) (.Name e3 p) (tVar 2) := fun p => pe_var rfl hv (okName_ok o3).1 (okName_ok o3).2
        have rh : L2H.RoomH 1 (Y.suite ae ((ae, oe) :: pn)).A := by
          have d1 := hr.dp
          have u1 := hr.un
          exact ⟨show X.A.depth + 1 + 3 * 1 + 5 < recursionLimit by omega, show X.A.units + 3 + 16 * 1 + 200 < cLine by omega⟩
        have pc := pe_callA1 (X := Y.suite ae ((ae, oe) :: pn)) (q := r3) (pos := r5) (p := (ae, oe)) (E := Fx) F rh List.mem_cons_self g4 m4 k4 hbf (fun _ _ _ _ _ _ _ z => by
          obtain ⟨_, _, _, _, _, _, _, _, _, _, _, _, z⟩ := z
          exact z.elim) (pv r4) rfl (okName_ok o7).1
        rw [ht]
        refine (pss_one (ps_ret (pe_tup (pa_cons (pe_xa xa xf1 xf2 (pv r1) rfl) (pa_cons pc pa_nil rfl) rfl)))).run pins s' σ H' D I ?_
        obtain ⟨v, e2⟩ : ∃ v, lookF wp.tg fs = some v := by
          cases el : lookF wp.tg fs with
          | some v => exact ⟨v, rfl⟩
          | none =>
            unfold xfv at q
            rw [hx, el] at q
            exact q.elim
        rw [xfv_eq hx e2] at q
        obtain ⟨em2, ys, e4, ls⟩ := id st
        obtain ⟨y, e5, zv⟩ := lookF_ok M ls e2
        have q : Cn M Fx r H' ((evFxI T c wp.tg fs wp.el wp.is h).bind fun v2 h2 => newOb (.tup [v, v2]) h2) (RV M) D.rt := q
        refine ⟨.ref ae, e0, rfl, ys, y, e4, e5, .ref ae, e0, c, dd, r, h, fs, wp, hw, rfl, hz, hf, st, (q.bind).mono fun y2 H2 ⟨r2, v2, h2, g2', z2, q2⟩ => ?_⟩
        exact ⟨by rw [sizeLine_eq]; exact (show (2 : Nat) ≤ 16777216 by decide), fun p hp => q2.new g2'.emb hp ⟨_, rfl, (RVs.mono (List.prefix_append _ _) (.cons (zv.mono g2'.pre) (.cons z2 .nil) : RVs M r2 [v, v2] [y, y2]))⟩⟩
    have ptry := ps_try_tas (X := Y) (n := e3) (i := 2) (pos := tpos) (body := [.Assign [.Name t2 p1] (.Call (.Name a p2) [] [] p3) p4]) (pos' := hp) (b₀ := .Return (some (.Tuple [.Attribute (.Name e3 r1) tgn r2, .Call (.Name lf r3) [.Name e3 r4] [] r5] k2 r6)) r7) (suite := [])
      (tb := fun W D σ H => ∃ Ech : XK, (∀ cls d σ' H', Ech cls d H' → σ'.length = 3 → W cls d σ' H') ∧ σ[0]? = some (some (.ref f)) ∧ H c' = some (LamX.CodeO c' q) ∧ tl Ech H fun v H' => D.nx (σ.set 1 (some v)) H')
      (Wout := fun _ _ _ _ => False) rfl rfl nd rfl hle hT LamX.takes0 (fun W pn xe tk _ => ?_) hsu
    · refine ⟨_, pss_cons ptry (pss_one (ps_ret (pe_tup (pa_cons pe_str (pa_cons (pe_var (i := 1) rfl (.inl hlt) (okName_ok o2).1 (okName_ok o2).2) pa_nil rfl) rfl)))), ?_⟩
      refine ⟨wWhy M T Q, fun cls d σ' H' hx sl => ?_, rfl, hco, ?_⟩
      · obtain ⟨c, r, h, fs, dd, rfl, rfl, st, qx⟩ := hx
        unfold whyX at qx
        split at qx
        · rename_i ct
          rw [hw] at qx
          refine ⟨true, hc c true ct, fun _ ae hae => ⟨c, r, h, fs, dd, rfl, rfl, ?_, st, qx⟩, fun z => by cases z⟩
          rw [List.getElem?_set_self (by rw [sl]; decide)]
        · exact qx.elim
      · rw [hem]
        have go : (fun v H' => (tRet (tTup (tCons (tC (.str ⟨#[]⟩)) (tCons (tVar 1) tNil)))) { nx := fun _ H' => Q .non H', rt := Q } (List.set (L2.start [a, t2, e3] [V.ref f]) 1 (some v)) H') = fun v H' => 2 ≤ sizeLine ∧ ∀ p, H' p = none → Q (.ref p) (upd H' p (.tup [.str ⟨#[]⟩, v])) := by
          funext v H'
          refine propext ⟨fun ⟨v', e, z1, z2⟩ => ?_, fun ⟨z1, z2⟩ => ⟨v, rfl, z1, z2⟩⟩
          have e : (some (some v) : Option (Option V)) = some (some v') := e
          cases e
          exact ⟨z1, z2⟩
        show tl (wWhy M T Q) H (fun v H' => (tRet (tTup (tCons (tC (.str ⟨#[]⟩)) (tCons (tVar 1) tNil)))) { nx := fun _ H' => Q .non H', rt := Q } (List.set (L2.start [a, t2, e3] [V.ref f]) 1 (some v)) H')
        rw [go]
        have sz : (2 : Nat) ≤ sizeLine := by rw [sizeLine_eq]; decide
        have e1 : (fun (v : V) (H' : Hp) => 2 ≤ sizeLine ∧ ∀ p, H' p = none → Q (.ref p) (upd H' p (.tup [.str ⟨#[]⟩, v]))) = fun v H' => ∀ p, H' p = none → Q (.ref p) (upd H' p (.tup [.str ⟨#[]⟩, v])) := by
          funext v H'
          exact propext ⟨fun z => z.2, fun z => ⟨sz, z⟩⟩
        rw [e1]
        exact h
    · refine ⟨fun pins s' σ H' D I ⟨Ech, hW, h1, h2, h3⟩ => ?_⟩
      have tk' : Takes (Y.tr pn xe) (fun cls d σ' H' => σ'.length = 3 → W cls d σ' H') := fun u s' ⟨a, B, sI, pins, σ, H, cls, d, e, I, nb, up, sky, na, os, ag, w⟩ => tk u s' ⟨a, B, sI, pins, σ, H, cls, d, e, I, nb, up, sky, na, os, ag, w I.len⟩
      have pa := act _ pn xe Ech p2 p3 tk' hW
      exact (pss_one (ps_set (X := Y.tr pn xe) (i := 1) (pos := p4) (pos' := p1) nd rfl (.inl hlt) pa rfl (.inr hlt))).run pins s' σ H' D I ⟨h1, h2, h3⟩
  · cases hb
end
end MP
set_option linter.all false
set_option maxRecDepth 100000
set_option maxHeartbeats 4000000
/-! x(lambda: e), x such a def. -/
namespace MP
open PySem PySem.Spec PyProof.Rows L2
/-- what the maker of a lambda must know of its own code object -/
structure LamOk (T : Tb) (M : Wd) (X : Cx) : Prop where
  ex : ∃ c P, LamX.TabB X.base X.mg c P ∧ X.env.code = .ref c ∧ (P, X.env.qual ++ "<lambda>") ∈ M.tbs ∧ ∀ p ∈ M.tbs, p.1 = P → p.2 = X.env.qual ++ "<lambda>"
  room : Room (T.cur - 1 + 2) X.A
  r3 : Room 3 X.A
section
variable {X : Cx} {M : Wd} {W : WX} {T : Tb} {r : List Addr} {h : Hv} {H H1 : Hp}
theorem gro_ext (he : Emb M r h H) (e : LamX.ExtN H H1) (t : LamX.Tabs M.tbs H1) : Gro M r H h r H1 where
  pre := List.prefix_refl _
  emb := ⟨he.len, he.nd, fun p hp => by
    obtain ⟨u, k, no⟩ := he.tr p hp
    exact ⟨u, e p u k no.1, no⟩, fun a o k => by
    obtain ⟨p, u, k1, k2, z⟩ := he.at_ a o k
    exact ⟨p, u, k1, e p u k2 z.nt, z⟩, t⟩
  new := fun _ a b => absurd a b
  fre := fun p u k _ nt => e p u k nt
  frz := fun p ob u k => e p _ k (fun _ => nofun)
  tab := fun _ => t
theorem okO_F {α β : Type} {E E' : XK} {R : List Addr → α → β → Prop} {x : Rs α} {Q : β → Hp → Prop} (q : Cn M E r H (okO x) R Q) : Cn M E' r H x R Q := by
  cases x with
  | ok v h => exact q
  | ex c f h => exact q.elim
  | no => exact q
theorem se_why {x : Str} {p lpos pos : Pos} {body : Expr} {scope : Scope} {ev : Fr → Hv → Rs Va} (wy : WhyOk T M X.prog X.w X.K X.mg X.base x) (lm : LamOk T M X) (hg : Gl X x) (L : LamX.LamS X.env.scope scope)
    (hbody : ∀ (A : Around) (outer : List Env) (s : Shared) (H : Hp) (E : XK) (f c' : Addr), Room (T.cur - 1) (A.deeper (LamX.lamEnv X scope s.heap.objs.size f c')) → PE (LamX.lamCx X A outer s H E scope f c') body (tF M (fun cls d _ H' => E cls d H') ev)) :
    PE X (.Call (.Name x p) [.Lambda ⟨[], [], none, [], [], none, []⟩ body scope lpos] [] pos) (tF M W fun s h => vWhy T (ev s h)) := by
  obtain ⟨a, g, pg, bg, sg, dV, kV, doc, pm, cdv, ct, oc, an, od, osl, Ng, m, k, lk, hcg, hb, Sg, n0, va, o1, o2, hG⟩ := wy.ex
  obtain ⟨c, P, TB, hcode, hmT, hu⟩ := lm.ex
  refine PE.imp (LamX.pe_lamcall (T := M.tbs) (TT := TWhy M T) (k := T.cur - 1) (t := fun E => tF M (fun cls d _ H' => E cls d H') ev) hg m k lk hcg hb Sg n0 va (hG X rfl rfl rfl rfl rfl lm.r3 _) TB hcode hmT hu lm.room L rfl (fun _ _ _ _ _ => rfl) hbody (okName_ok o1).1 (okName_ok o2).1 (okName_ok o2).2) fun σ H Q ⟨r, s, h, hs, he, q⟩ => ⟨he.tab, fun H1 eN T1 => ?_⟩
  have g0 := gro_ext he eN T1
  refine ⟨r, s, h, hs, g0.emb, ?_⟩
  have q : Cn M (XAt W σ) r H (vWhy T (ev s h)) (RV M) Q := q
  revert q
  cases ev s h with
  | no => exact fun q => q.elim
  | ok v h1 =>
    intro q r1 y H2 g1 z p hp
    have q : Cn M (XAt W σ) r H (newOb (.tup [.str [], v]) h1) (RV M) Q := q
    exact (q.later (g0.trans g1)).new g1.emb hp ⟨_, rfl, (RVs.mono (List.prefix_append _ _) (.cons rfl (.cons z .nil) : RVs M r1 [.str [], v] [.str ⟨#[]⟩, y]))⟩
  | ex cc fs h1 =>
    intro q r1 H2 d ys g1 ls e
    have q : Cn M (XAt W σ) r H (okO (whyX T cc fs h1)) (RV M) Q := q
    exact ⟨cc, r1, h1, fs, d, rfl, rfl, ⟨g1.emb, ys, e, ls⟩, okO_F (q.later (g0.trans g1))⟩
end
end MP
set_option linter.all false
set_option maxRecDepth 100000
set_option maxHeartbeats 4000000
/-! join, split. -/
namespace MP
open PySem L2
theorem joinS_eq (sep : List Nat) : ∀ l : List (List Nat), joinS sep l = TL.joinL sep l
  | [] => rfl
  | [p] => List.append_nil p
  | p :: q :: r => by
    show p ++ (sep ++ joinS sep (q :: r)) = p ++ (sep ++ TL.joinL sep (q :: r))
    rw [joinS_eq sep (q :: r)]
theorem isPre_eq : ∀ S l : List Nat, isPre S l = TL.pre S l
  | [], l => by
    show true = (l.take 0 == [])
    rw [List.take_zero]
    rfl
  | x :: xs, [] => rfl
  | x :: xs, y :: ys => by
    show (Nat.beq x y && isPre xs ys) = (y :: ys.take xs.length == x :: xs)
    rw [isPre_eq xs ys]
    show (Nat.beq x y && (ys.take xs.length == xs)) = ((y == x) && (ys.take xs.length == xs))
    congr 1
    cases e : Nat.beq x y with
    | true =>
      rw [Nat.eq_of_beq_eq_true e]
      simp
    | false =>
      have := Nat.ne_of_beq_eq_false e
      exact (beq_eq_false_iff_ne.mpr (Ne.symm this)).symm
theorem splS_eq (S : List Nat) : ∀ (l : List Nat) (k : Nat) (acc : List Nat), splS S l k acc = TL.spl S k acc l
  | [], k, acc => (TL.spl_nil S k acc).symm
  | c :: r, j + 1, acc => splS_eq S r j acc
  | c :: r, 0, acc => by
    show (match isPre S (c :: r) with
      | true => acc :: splS S r (S.length - 1) []
      | false => splS S r 0 (acc ++ [c])) = if TL.pre S (c :: r) = true then acc :: TL.spl S (S.length - 1) [] r else TL.spl S 0 (acc ++ [c]) r
    rw [isPre_eq]
    cases TL.pre S (c :: r) with
    | true =>
      rw [if_pos rfl]
      exact congrArg _ (splS_eq S r _ _)
    | false =>
      rw [if_neg (by decide)]
      exact splS_eq S r _ _
section
variable {X : Cx} {M : Wd} {W : WX} {r : List Addr} {h : Hv} {H : Hp} {fo fe : Fr → Hv → Rs Va} {o e : Expr} {apos pos : Pos}
theorem allStr_ok : ∀ {vs : List Va} {xs : List (List Nat)} {ys : List V}, allStr vs = some xs → RVs M r vs ys → ys = (xs.map SX.S).map V.str
  | [], xs, ys, e, z => by
    cases e
    cases z
    rfl
  | v :: vs, xs, ys, e, z => by
    cases z with
    | @cons _ y _ ys' z1 z2 =>
      cases v with
      | str x =>
        have e : (match allStr vs with
          | some xs => some (x :: xs)
          | none => none) = some xs := e
        cases q : allStr vs with
        | none =>
          rw [q] at e
          cases e
        | some xs' =>
          rw [q] at e
          cases e
          rw [allStr_ok q z2]
          obtain rfl : y = V.str ⟨x.toArray⟩ := z1
          rfl
      | _ => cases e
theorem sumLen_eq : ∀ xs : List (List Nat), ((xs.map SX.S).map (·.length)).sum = sumLen xs
  | [] => rfl
  | x :: xs => by
    show (SX.S x).length + ((xs.map SX.S).map (·.length)).sum = x.length + sumLen xs
    rw [sumLen_eq xs, SX.S_len]
theorem strB {v : Va} {y : V} (z : RV M r v y) (e : isStrB v = true) : ∃ x, v = .str x ∧ y = .str (SX.S x) := by
  cases v with
  | str x => exact ⟨x, rfl, z⟩
  | _ => cases e
theorem se_join (ho : PE X o (tF M W fo)) (he : PE X e (tF M W fe)) (hp : plainX e = true) (hsu : supB o = true) (hl : (apos.endLine == pos.line) = true) :
    PE X (.Call (.Attribute o "join" apos) [e] [] pos) (tF M W fun s h => (fo s h).bind fun x h1 => gd (isStrB x) ((fe s h1).bind fun y h2 => opJoin x y h2)) :=
  PE.imp (pe_join ho he (starEach_plain [] X.env hp) (attrB hsu) hl) fun σ H Q ⟨r, s, h, hs, hem, q⟩ => tF.step hs hem q fun r1 v h1 y H1 g1 hs1 he1 z1 q1 => by
    obtain ⟨hb, q1⟩ := q1.gd
    obtain ⟨sep, rfl, rfl⟩ := strB z1 hb
    refine ⟨⟨_, rfl⟩, tF.step hs1 he1 q1 fun r2 w h2 y2 H2 g2 hs2 he2 z2 q2 => ?_⟩
    have q2 : Cn M (XAt W σ) r2 H2 (match items h2 w with
      | some vs => (match allStr vs with
        | some xs => gd (Nat.ble (sumLen xs + xs.length * sep.length) Bnd) (.ok (.str (joinS sep xs)) h2)
        | none => .no)
      | none => .no) (RV M) Q := q2
    cases ei : items h2 w with
    | none =>
      rw [ei] at q2
      exact q2.elim
    | some vs =>
      rw [ei] at q2
      dsimp only at q2
      cases ea : allStr vs with
      | none =>
        rw [ea] at q2
        exact q2.elim
      | some xs =>
        rw [ea] at q2
        obtain ⟨hbd, q2⟩ := q2.gd
        obtain ⟨p, ys, rfl, k, ls⟩ := items_ok X.K he2 z2 ei
        have ey := allStr_ok ea ls
        subst ey
        refine ⟨SX.S sep, p, xs.map SX.S, rfl, rfl, k.symm, ?_, ?_⟩
        · rw [sumLen_eq, List.length_map, SX.S_len]
          have := Nat.le_of_ble_eq_true hbd
          unfold Bnd at this
          omega
        · rw [SX.join_S, ← joinS_eq]
          exact Cn.ok (v := Va.str (joinS sep xs)) q2 he2 rfl
theorem se_split (ho : PE X o (tF M W fo)) (he : PE X e (tF M W fe)) (hp : plainX e = true) (hsu : supB o = true) (hl : (apos.endLine == pos.line) = true) :
    PE X (.Call (.Attribute o "split" apos) [e] [] pos) (tF M W fun s h => (fo s h).bind fun x h1 => gd (isStrB x) ((fe s h1).bind fun y h2 => opSplit x y h2)) :=
  PE.imp (pe_split ho he (starEach_plain [] X.env hp) (attrB hsu) hl) fun σ H Q ⟨r, s, h, hs, hem, q⟩ => tF.step hs hem q fun r1 v h1 y H1 g1 hs1 he1 z1 q1 => by
    obtain ⟨hb, q1⟩ := q1.gd
    obtain ⟨t, rfl, rfl⟩ := strB z1 hb
    refine ⟨⟨_, rfl⟩, tF.step hs1 he1 q1 fun r2 w h2 y2 H2 g2 hs2 he2 z2 q2 => ?_⟩
    cases w with
    | str sep =>
      have q2 : Cn M (XAt W σ) r2 H2 (gd (!sep.isEmpty && (sep.all (fun c => Nat.blt c 256) && Nat.blt t.length Bnd)) (newOb (.lst ((splS sep t 0 []).map Va.str)) h2)) (RV M) Q := q2
      obtain ⟨hg, q2⟩ := q2.gd
      rw [Bool.and_eq_true, Bool.and_eq_true] at hg
      obtain ⟨g1', g2', g3'⟩ := hg
      obtain rfl : y2 = V.str (SX.S sep) := z2
      have ne : sep ≠ [] := fun z => by
        rw [z] at g1'
        cases g1'
      have hk : sep.all (· < 256) = true := List.all_eq_true.mpr fun c hc => decide_eq_true (Nat.le_of_ble_eq_true (List.all_eq_true.mp g2' c hc))
      have h3 := Nat.le_of_ble_eq_true g3'
      refine ⟨SX.S t, SX.S sep, rfl, rfl, ?_, ?_, ?_⟩
      · rw [SX.S_len]
        cases sep with
        | nil => exact absurd rfl ne
        | cons _ _ => rfl
      · rw [SX.S_len, sizeLine_eq]
        unfold Bnd at h3
        omega
      · rw [SX.split_S ne hk, ← splS_eq]
        intro p hp
        refine q2.new he2 hp ⟨_, rfl, ?_⟩
        have go : ∀ l : List (List Nat), RVs M (r2 ++ [p]) (l.map Va.str) ((l.map SX.S).map V.str) := fun l => by
          induction l with
          | nil => exact .nil
          | cons a l ih => exact .cons rfl ih
        exact go _
    | _ => exact q2.elim
end
end MP
set_option linter.all false
set_option maxRecDepth 100000
set_option maxHeartbeats 8000000
/-! What the text's reading says is what the small language says. -/
namespace MP
open PySem L2
def biN : List Str := ["len", "abs", "max", "min", "int", "list", "tuple", "sum", "all", "any", "bool", "str", "range", "enumerate", "zip", "isinstance", "ValueError", "LookupError", "IndexError"]
section
variable (T : Tb) (M : Wd) (O : Orc)
def GOk (X : Cx) (x : Str) : GK → Prop
  | .fn f => X.mg x = some (.ref (M.fa f)) ∧ PySem.W.keepIn X.K (.ref (M.fa f)) = true ∧ DBl X T M O f
  | .cls c => X.mg x = some (.ref (M.ca c)) ∧ ∀ g, T.ini c = some g → KOk X.K M c g ∧ DBl X T M O g
  | .cst v => ∃ u y, X.mg x = some u ∧ RelV y u ∧ RV M [] v y
  | .sm c m f => SmOk X.K M c m f ∧ DBl X T M O f
  | .why => WhyOk T M X.prog X.w X.K X.mg X.base x
structure CSok (S : CS) (X : Cx) (W : WX) : Prop where
  N : X.N = S.N
  nd : X.N.Nodup
  scl : ∀ x, S.sc.names.lookup x = some .local → X.env.scope.names.lookup x = some .local
  scc : ∀ x, S.sc.names.lookup x = some .cell → X.env.scope.names.lookup x = some .cell
  scf : ∀ x, S.sc.names.lookup x = some .free → X.env.scope.names.lookup x = some .cell ∨ X.env.scope.names.lookup x = some .free
  scg : ∀ x, S.sc.names.lookup x = some .globalImplicit → X.env.scope.names.lookup x = some .globalImplicit
  kd : X.env.scope.kind = .function
  un : X.A.units + 65 < cLine
  calm : X.calm = true
  tk : Takes X W
  room : Room (T.cur - 1) X.A
  gl : ∀ x g, S.gt.lookup x = some g → GOk T M O X x g
  bi : ∀ x, biN.contains x = true → S.gt.lookup x = none → X.mg x = none
  an : ∀ x n, ixS x S.an 0 = some n → M.an n = x
  tok : TOk T M X.K
  met : ∀ m c g, T.met c m = some g → MOk X.K M c m g ∧ DBl X T M O g
  prp : ∀ f c g, T.prp c f = some g → PrOk X.K M c f g ∧ DBl X T M O g
  stp : ∀ f c g, T.stp c f = some g → PsOk X.K M c f g ∧ DBl X T M O g
  lenM : M.an T.lenM = "__len__"
  lam : S.lam = true → LamOk T M X
  xc : ∀ c tf tag pf, T.exc c = some (tf, tag, pf) → XOk X M c tf tag pf
  xk : ∀ c k tf tag pf, T.exc c = some (tf, tag, pf) → T.exk c = some k → XKey X M c tf tag pf (M.an k)
  fn : ∀ x, (S.sc.names.lookup x = some .local ∨ S.sc.names.lookup x = some .cell) → X.fn x = true ∨ X.env.scope.names.lookup x = some .local
end
section
variable {T : Tb} {M : Wd} {O : Orc} {X : Cx} {W : WX} {S : CS}
theorem sl_ok (ok : CSok T M O S X W) {x : Str} {i : Nat} (h : S.sl x = some i) : X.N[i]? = some x ∧ Vis X.env.scope x := by
  unfold CS.sl at h
  rw [ok.N]
  split at h
  · rename_i e
    obtain ⟨k, rfl, z⟩ := ixS_ok h
    exact ⟨by rw [Nat.zero_add]; exact z, .inl (ok.scl x e)⟩
  · rename_i e
    obtain ⟨k, rfl, z⟩ := ixS_ok h
    exact ⟨by rw [Nat.zero_add]; exact z, .inr (.inl (ok.scc x e))⟩
  · rename_i e
    obtain ⟨k, rfl, z⟩ := ixS_ok h
    exact ⟨by rw [Nat.zero_add]; exact z, .inr (ok.scf x e)⟩
  · cases h
theorem ws_ok (ok : CSok T M O S X W) {x : Str} {i : Nat} (h : S.ws x = some i) : X.N[i]? = some x ∧ Loc X.env.scope x ∧ (X.fn x = true ∨ X.env.scope.names.lookup x = some .local) := by
  unfold CS.ws at h
  rw [ok.N]
  split at h
  · rename_i e
    obtain ⟨k, rfl, z⟩ := ixS_ok h
    exact ⟨by rw [Nat.zero_add]; exact z, .inl (ok.scl x e), ok.fn x (.inl e)⟩
  · rename_i e
    obtain ⟨k, rfl, z⟩ := ixS_ok h
    exact ⟨by rw [Nat.zero_add]; exact z, .inr (ok.scc x e), ok.fn x (.inr e)⟩
  · cases h
theorem isG_ok (ok : CSok T M O S X W) {x : Str} (h : S.isG x = true) : Gl X x := by
  unfold CS.isG at h
  split at h
  · rename_i e
    exact ok.scg x e
  · cases h
theorem gl_ok (ok : CSok T M O S X W) {x : Str} {g : GK} (h : S.gl x = some g) : Gl X x ∧ GOk T M O X x g := by
  unfold CS.gl at h
  split at h
  · rename_i e
    exact ⟨isG_ok ok e, ok.gl x g h⟩
  · cases h
theorem bi_ok (ok : CSok T M O S X W) {x : Str} (h : S.bi x = true) (hb : biN.contains x = true) : Gl X x ∧ X.mg x = none := by
  unfold CS.bi at h
  split at h
  · rename_i e
    split at h
    · rename_i e2
      exact ⟨isG_ok ok e, ok.bi x hb e2⟩
    · cases h
  · cases h
theorem fi_ok (ok : CSok T M O S X W) {x : Str} {n : Nat} (h : S.fi x = some n) : x = M.an n := (ok.an x n h).symm
theorem cBO_ok {o : Operator} {b : BO} (h : cBO o = some b) : o = bOp b := by
  cases o <;> cases h <;> rfl
theorem cCO_ok {o : CmpOp} {b : CO} (h : cCO o = some b) : o = cOp b := by
  cases o <;> cases h <;> rfl
theorem noSet_ok {e : Expr} {o : CmpOp} (h : noSet e = true) : behindInMarks o e = false := by
  cases e <;> first | rfl | cases h
theorem nofold {e : Expr} {env : Env} (h : noSet e = true) : ∀ x, foldedSetIterable e env x = pure x := by
  intro x
  cases e <;> first | rfl | cases h
/-- nothing is promised of no fuel -/
theorem pe_no {e : Expr} {f : Fr → Hv → Rs Va} (h : ∀ s h, f s h = .no) : PE X e (tF M W f) := ⟨fun pins s σ H Q I ⟨r, sm, hh, hs, he, q⟩ => by
  rw [h] at q
  exact q.elim⟩
theorem pt_no {e : Expr} {f : Fr → Hv → Rs Bool} (h : ∀ s h, f s h = .no) : PT X e (tFT M W f) := ⟨fun pins s σ H Q I ⟨r, sm, hh, hs, he, q⟩ => by
  rw [h] at q
  exact q.elim⟩
/-- what is to be shown, at a compile depth -/
def SE (T : Tb) (M : Wd) (O : Orc) (c : Nat) : Prop := ∀ (W : WX) (X : Cx) (S : CS), CSok T M O S X W → ∀ e x, cEx c S e = some x → ∀ n, PE X e (tF M W fun s h => (evs T O n).e s x h)
def SB (T : Tb) (M : Wd) (O : Orc) (c : Nat) : Prop := ∀ (W : WX) (X : Cx) (S : CS), CSok T M O S X W → ∀ e x, cTs c S e = some x → ∀ n, PT X e (tFT M W fun s h => (evs T O n).t s x h)
theorem cst_ok {k : Const} {v : Va} {j : Nat} {pos : Pos} (h : cCst k = some v) : PE X (.Constant k j pos) (tF M W fun _ h => .ok v h) := by
  cases k with
  | none =>
    cases h
    exact se_cst pe_non rfl
  | bool b =>
    cases h
    exact se_cst pe_bl rfl
  | int i =>
    cases h
    exact se_cst pe_int rfl
  | str x =>
    cases h
    refine se_cst pe_str ?_
    show V.str x = V.str ⟨x.cps.toList.toArray⟩
    simp
  | _ => cases h
/-- several expressions -/
theorem args_ok {c : Nat} (ih : SE T M O c) (ok : CSok T M O S X W) (n : Nat) : ∀ {es : List Expr} {xs : List Ex}, mapO (cEx c S) es = some xs → es.all plainX = true → PA X es (tFA M W fun s h => evPs ((evs T O n).e s) xs h)
  | [], xs, h, _ => by
    cases h
    exact sa_nil
  | e :: es, xs, h, hp => by
    rw [List.all_cons, Bool.and_eq_true] at hp
    obtain ⟨y, ys, e1, e2, rfl⟩ := mapO_cons h
    exact sa_cons hp.1 (ih W X S ok e y e1 n) (args_ok ih ok n e2 hp.2)
theorem items_okE {c : Nat} (ih : SE T M O c) (ok : CSok T M O S X W) (n : Nat) : ∀ {es : List Expr} {xs : List (Bool × Ex)}, mapO (cIte (cEx c S)) es = some xs → PA X es (tFA M W fun s h => evAs ((evs T O n).e s) xs h)
  | [], xs, h => by
    cases h
    exact sa_nil
  | e :: es, xs, h => by
    obtain ⟨y, ys, e1, e2, rfl⟩ := mapO_cons h
    have ih2 := items_okE ih ok n e2
    unfold cIte at e1
    split at e1
    · obtain ⟨x, ex, rfl⟩ := map_some e1
      exact sa_star (ih W X S ok _ x ex n) ih2
    · rename_i hne
      obtain ⟨x, ex, rfl⟩ := map_some e1
      have hp : plainX e = true := by
        cases e <;> first | rfl | exact absurd rfl (hne _ _)
      exact sa_cons hp (ih W X S ok e x ex n) ih2
end
end MP
set_option linter.all false
set_option maxRecDepth 100000
set_option maxHeartbeats 8000000
/-! The step of the soundness: expressions. -/
namespace MP
open PySem L2
section
variable {T : Tb} {M : Wd} {O : Orc} {X : Cx} {W : WX} {S : CS}
theorem foldB_ok {c : Nat} (ihE : SE T M O c) (ok : CSok T M O S X W) (o : BoolOp) {pos : Pos} : ∀ {es : List Expr} {xs : List Ex} {x : Ex}, mapO (cEx c S) es = some xs → foldB o xs = some x → ∀ n, PE X (.BoolOp o es pos) (tF M W fun s h => (evs T O n).e s x h)
  | [], xs, x, h, hf, n => by
    cases h
    cases hf
  | [e], xs, x, h, hf, n => by
    obtain ⟨y, ys, e1, e2, rfl⟩ := mapO_cons h
    cases e2
    obtain rfl : y = x := Option.some.inj hf
    exact pe_one (ihE W X S ok e y e1 n)
  | e :: e2 :: es, xs, x, h, hf, n => by
    obtain ⟨y, ys, h1, h2, rfl⟩ := mapO_cons h
    obtain ⟨y2, ys2, h3, h4, rfl⟩ := mapO_cons h2
    have hf : (match foldB o (y2 :: ys2) with
      | none => none
      | some z => some (joinB o y z)) = some x := hf
    cases hz : foldB o (y2 :: ys2) with
    | none =>
      rw [hz] at hf
      cases hf
    | some z =>
      rw [hz] at hf
      cases n with
      | zero => exact pe_no fun _ _ => rfl
      | succ n =>
        have ih := foldB_ok ihE ok o (pos := pos) h2 hz n
        have i1 := ihE W X S ok e y h1 n
        obtain rfl : joinB o y z = x := Option.some.inj hf
        cases o with
        | And => exact se_and i1 ih
        | Or => exact se_or i1 ih
theorem se_chn (hu : X.A.units + 65 < cLine) (o p : CO) {a b d : Expr} {fa fb fc : Fr → Hv → Rs Va} {pos : Pos} (ha : PE X a (tF M W fa)) (hb : PE X b (tF M W fb)) (hc : PE X d (tF M W fc)) (hm : behindInMarks (cOp p) d = false) : PE X (.Compare a [cOp o, cOp p] [b, d] pos) (tF M W (fChn o p fa fb fc)) :=
  PE.imp (pe_chain (o_cmp hu o) (o_cmp hu p) ha hb hc hm) fun σ H Q q => chn_ok (K := X.K) (ta := tF M W fa) (tb := tF M W fb) (tc := tF M W fc) (a := a) (b := b) (c := d) σ H Q q
theorem ty_ok {c : Expr} {t : TyC} (ok : CSok T M O S X W) (h : cTy S c = some t) : PCl X M c t ∧ plainX c = true := by
  unfold cTy at h
  split at h
  · rename_i x pos
    refine ⟨?_, rfl⟩
    split at h
    · rename_i hb
      have look : ∀ {l : List (Str × TyC)} {t : TyC}, l.lookup x = some t → (x, t) ∈ l := fun {l t} hl => by
        induction l with
        | nil => cases hl
        | cons p l ih =>
          obtain ⟨y, u⟩ := p
          rw [List.lookup_cons] at hl
          split at hl
          · rename_i q
            cases hl
            rw [beq_iff_eq.mp q]
            exact List.mem_cons_self ..
          · exact List.mem_cons_of_mem _ (ih hl)
      have hm := look h
      simp only [tys, List.mem_cons, List.not_mem_nil, or_false, Prod.mk.injEq] at hm
      rcases hm with ⟨rfl, rfl⟩ | ⟨rfl, rfl⟩ | ⟨rfl, rfl⟩ | ⟨rfl, rfl⟩ | ⟨rfl, rfl⟩ | ⟨rfl, rfl⟩ | ⟨rfl, rfl⟩ | ⟨rfl, rfl⟩
      · obtain ⟨g, m⟩ := bi_ok ok hb (by decide)
        exact pe_bltn g m (by rfl) rfl
      · obtain ⟨g, m⟩ := bi_ok ok hb (by decide)
        exact pe_bltn g m (by rfl) rfl
      · obtain ⟨g, m⟩ := bi_ok ok hb (by decide)
        exact pe_bltn g m (by rfl) rfl
      · obtain ⟨g, m⟩ := bi_ok ok hb (by decide)
        exact pe_bltn g m (by rfl) rfl
      · obtain ⟨g, m⟩ := bi_ok ok hb (by decide)
        exact pe_bltn g m (by rfl) rfl
      · obtain ⟨g, m⟩ := bi_ok ok hb (by decide)
        exact pe_bltn g m (by rfl) rfl
      · obtain ⟨g, m⟩ := bi_ok ok hb (by decide)
        exact pe_bltn g m (by rfl) rfl
      · obtain ⟨g, m⟩ := bi_ok ok hb (by decide)
        exact pe_bltn g m (by rfl) rfl
    · split at h
      · rename_i d hd
        obtain ⟨hn, h⟩ := guardO_some h
        cases h
        obtain ⟨g, k⟩ := gl_ok ok hd
        exact pe_glob g k.1 rfl (okName_ok hn).1
      · cases h
  · cases h
theorem tys_ok {c : Nat} (ok : CSok T M O S X W) : ∀ {cs : List Expr} {ts : List TyC}, mapO (cTy S) cs = some ts → Paired (fun c t => PCl X M c t ∧ plainX c = true) cs ts
  | [], ts, h => by
    cases h
    exact .nil
  | e :: es, ts, h => by
    obtain ⟨y, ys, e1, e2, rfl⟩ := mapO_cons h
    exact .cons (ty_ok ok e1) (tys_ok (c := c) ok e2)
theorem lookup_mem {α : Type} {x : Str} : ∀ {l : List (Str × α)} {t : α}, l.lookup x = some t → (x, t) ∈ l
  | [], _, h => by cases h
  | (y, u) :: l, t, h => by
    rw [List.lookup_cons] at h
    split at h
    · rename_i q
      cases h
      rw [beq_iff_eq.mp q]
      exact List.mem_cons_self ..
    · exact List.mem_cons_of_mem _ (lookup_mem h)
theorem bfs_ok {x : Str} {b : Bf} (h : bfs.lookup x = some b) : x = bName b ∧ bok b = true ∧ biN.contains x = true := by
  have hm := lookup_mem h
  simp only [bfs, List.mem_cons, List.not_mem_nil, or_false, Prod.mk.injEq] at hm
  rcases hm with ⟨rfl, rfl⟩ | ⟨rfl, rfl⟩ | ⟨rfl, rfl⟩ | ⟨rfl, rfl⟩ | ⟨rfl, rfl⟩ | ⟨rfl, rfl⟩ | ⟨rfl, rfl⟩ | ⟨rfl, rfl⟩ | ⟨rfl, rfl⟩ | ⟨rfl, rfl⟩ <;> exact ⟨rfl, rfl, by decide⟩
theorem mapO_len {α β : Type} {f : α → Option β} : ∀ {xs : List α} {ys : List β}, mapO f xs = some ys → xs.length = ys.length
  | [], _, h => by
    cases h
    rfl
  | x :: xs, ys, h => by
    obtain ⟨y, zs, _, e2, rfl⟩ := mapO_cons h
    exact congrArg Nat.succ (mapO_len e2)
/-- an iterable -/
theorem it_ok {c : Nat} (ihE : SE T M O c) (ok : CSok T M O S X W) (n : Nat) {tg iter : Expr} {k : IK} {es : List Ex} (h : cIt S (cEx c S) tg iter = some (k, es)) : (∃ wi, ItOk X M W tg iter k (fun s h => evPs ((evs T O n).e s) es h) wi) ∧ noSet iter = true := by
  have plain : ∀ {e : Expr} {k : IK} {es : List Ex}, noSet e = true → (cEx c S e).map (fun e => (IK.it, [e])) = some (k, es) → (∃ wi, ItOk X M W tg e k (fun s h => evPs ((evs T O n).e s) es h) wi) ∧ noSet e = true := fun {e k es} hn h => by
    obtain ⟨x, ex, e2⟩ := map_some h
    cases e2
    exact ⟨⟨_, it_any (ihE W X S ok e x ex n)⟩, hn⟩
  unfold cIt at h
  split at h
  · rename_i x p args pos
    split at h
    · rename_i g
      rw [Bool.and_eq_true, Bool.and_eq_true] at g
      obtain ⟨⟨gb, gs⟩, gn⟩ := g
      split at h
      · rename_i q
        rw [Bool.and_eq_true] at q
        have hx := of_decide_eq_true q.1
        subst hx
        obtain ⟨gl, gm⟩ := bi_ok ok gb (by decide)
        obtain ⟨xs, exs, e2⟩ := map_some h
        cases e2
        refine ⟨?_, gn⟩
        have q2 := q.2
        split at q2
        · rename_i a
          obtain ⟨y, ys, e1, e2, rfl⟩ := mapO_cons exs
          cases e2
          rw [noStarB, List.all_cons, Bool.and_eq_true] at gs
          exact ⟨_, it_rng1 gl gm gs.1 (ihE W X S ok _ _ e1 n)⟩
        · rename_i a b
          obtain ⟨y, ys, e1, e2, rfl⟩ := mapO_cons exs
          obtain ⟨y2, ys2, e3, e4, rfl⟩ := mapO_cons e2
          cases e4
          rw [noStarB, List.all_cons, List.all_cons, Bool.and_eq_true, Bool.and_eq_true] at gs
          exact ⟨_, it_rng2 gl gm gs.1 gs.2.1 (ihE W X S ok _ _ e1 n) (ihE W X S ok _ _ e3 n)⟩
        · cases q2
      · split at h
        · rename_i q
          rw [Bool.and_eq_true] at q
          have hx := of_decide_eq_true q.1
          subst hx
          obtain ⟨gl, gm⟩ := bi_ok ok gb (by decide)
          obtain ⟨xs, exs, e2⟩ := map_some h
          cases e2
          refine ⟨?_, gn⟩
          have q2 := q.2
          split at q2
          · obtain ⟨y, ys, e1, e2, rfl⟩ := mapO_cons exs
            cases e2
            rw [noStarB, List.all_cons, Bool.and_eq_true] at gs
            exact ⟨_, it_enm gl gm gs.1 (ihE W X S ok _ _ e1 n)⟩
          · cases q2
        · split at h
          · rename_i q
            rw [Bool.and_eq_true] at q
            have hx := of_decide_eq_true q.1
            subst hx
            obtain ⟨gl, gm⟩ := bi_ok ok gb (by decide)
            obtain ⟨xs, exs, e2⟩ := map_some h
            cases e2
            refine ⟨?_, gn⟩
            have q2 := q.2
            split at q2
            · obtain ⟨y, ys, e1, e2, rfl⟩ := mapO_cons exs
              obtain ⟨y2, ys2, e3, e4, rfl⟩ := mapO_cons e2
              cases e4
              rw [noStarB, List.all_cons, List.all_cons, Bool.and_eq_true, Bool.and_eq_true] at gs
              exact ⟨_, it_zip gl gm gs.1 gs.2.1 (ihE W X S ok _ _ e1 n) (ihE W X S ok _ _ e3 n)⟩
            · cases q2
          · exact plain gn h
    · exact plain rfl h
  · obtain ⟨hn, h⟩ := guardO_some h
    exact plain hn h
end
end MP
set_option linter.all false
set_option maxRecDepth 100000
set_option maxHeartbeats 8000000
/-! Targets, blocks; the step. -/
namespace MP
open PySem L2
section
variable {T : Tb} {M : Wd} {O : Orc} {X : Cx} {W : WX} {S : CS}
theorem nms_ok (ok : CSok T M O S X W) : ∀ {es : List Expr} {is : List Nat}, mapO (cNm S) es = some is → PGs X es (is.foldr (fun i u => gCons (gName i) u) gNil) ∧ (assignEach es X.env).length = is.length ∧ (assignEach es X.env).findIdx? (·.1) = none
  | [], is, h => by
    cases h
    exact ⟨pgs_nil, rfl, rfl⟩
  | e :: es, is, h => by
    obtain ⟨y, ys, e1, e2, rfl⟩ := mapO_cons h
    obtain ⟨i1, i2, i3⟩ := nms_ok ok e2
    unfold cNm at e1
    split at e1
    · rename_i x pos
      obtain ⟨hi, hx, hf⟩ := ws_ok ok e1
      refine ⟨pgs_cons (pg_name ok.nd hi hx hf) i1 rfl, congrArg Nat.succ i2, ?_⟩
      show ((false, assign (.Name x pos) X.env) :: assignEach es X.env).findIdx? (·.1) = none
      rw [List.findIdx?_cons, i3]
      rfl
    · cases e1
theorem lt_ok (ok : CSok T M O S X W) {tg : Expr} {t : LT} (h : cLT S tg = some t) : ∃ g, PG X tg g ∧ LtOk X t g := by
  unfold cLT at h
  split at h
  · rename_i x pos
    obtain ⟨i, e1, rfl⟩ := map_some h
    obtain ⟨hi, hx, hf⟩ := ws_ok ok e1
    exact ⟨_, pg_name ok.nd hi hx hf, rfl⟩
  · rename_i es k pos
    obtain ⟨is, e1, rfl⟩ := map_some h
    obtain ⟨i1, i2, i3⟩ := nms_ok ok e1
    exact ⟨_, pg_tup ok.calm i1 i2 i3, rfl⟩
  · cases h
theorem relS_free {sc : Scope} : ∀ {names : List (Str × NameKind)} {x : Str}, names.lookup x = some .free →
    (names.map fun (n, k) => if (k == NameKind.free && sc.kind == .function && sc.names.lookup n == some .cell) then (n, NameKind.cell) else (n, k)).lookup x = some .cell ∨ (names.map fun (n, k) => if (k == NameKind.free && sc.kind == .function && sc.names.lookup n == some .cell) then (n, NameKind.cell) else (n, k)).lookup x = some .free
  | [], _, h => by cases h
  | (n, k0) :: r, x, h => by
    have ih := @relS_free sc r x
    show List.lookup x ((if (k0 == NameKind.free && sc.kind == .function && sc.names.lookup n == some .cell) = true then (n, NameKind.cell) else (n, k0)) :: (r.map _)) = some .cell ∨ List.lookup x ((if (k0 == NameKind.free && sc.kind == .function && sc.names.lookup n == some .cell) = true then (n, NameKind.cell) else (n, k0)) :: (r.map _)) = some .free
    rw [List.lookup_cons] at h
    cases hx : x == n with
    | true =>
      rw [hx] at h
      cases h
      by_cases hc : (NameKind.free == NameKind.free && sc.kind == .function && sc.names.lookup n == some .cell) = true
      · rw [if_pos hc]
        left
        rw [List.lookup_cons, hx]
      · rw [if_neg hc]
        right
        rw [List.lookup_cons, hx]
    | false =>
      rw [hx] at h
      by_cases hc : (k0 == NameKind.free && sc.kind == .function && sc.names.lookup n == some .cell) = true
      · rw [if_pos hc, List.lookup_cons, hx]
        exact ih h
      · rw [if_neg hc, List.lookup_cons, hx]
        exact ih h
/-- a comprehension's block -/
theorem blk_ok (ok : CSok T M O S X W) (sc : Scope) (hk : sc.kind = .function) (s : Shared) (H : Hp) (C : Addr) (cl : List (Str × Addr)) (fp : List Addr) : CSok T M O { S with sc := sc, lam := false } (X.blk s H sc (compEnvC sc cl C X.env) fp) WF where
  N := ok.N
  nd := ok.nd
  scl := fun x h => lookup_relS_keep (sc := X.env.scope) (by decide) h
  scc := fun x h => lookup_relS_keep (sc := X.env.scope) (by decide) h
  scf := fun x h => relS_free (sc := X.env.scope) h
  scg := fun x h => lookup_relS_keep (sc := X.env.scope) (by decide) h
  kd := hk
  un := ok.un
  calm := ok.calm
  tk := fun u s' ⟨a, B, sI, pins, σ, H, cls, d, e, I, nb, up, sky, na, os, ag, w⟩ => w.elim
  room := ok.room
  gl := fun x g h => ok.gl x g h
  bi := ok.bi
  an := ok.an
  tok := ok.tok
  met := ok.met
  lenM := ok.lenM
  lam := fun h => by cases h
  xc := ok.xc
  xk := ok.xk
  prp := ok.prp
  stp := ok.stp
  fn := fun x h => by
    rcases h with k | k
    · exact .inr (lookup_relS_keep (sc := X.env.scope) (by decide) k)
    · left
      show (sc.names.lookup x == some .cell) = true
      rw [show sc.names.lookup x = some .cell from k]
      rfl
theorem blkOk_of (ok : CSok T M O S X W) {sc : Scope} (h : blkC S.N S.sc sc (ownOf S.N sc) = true) : BlkOk X.N X.env.scope sc (ownOf S.N sc) := by
  have b := blkOk_by h
  rw [ok.N]
  exact ⟨b.kind, b.uniq, b.ix, fun y hy e => by
    rcases b.free y hy e with k | k
    · exact .inl (ok.scc _ k)
    · exact ok.scf _ k, b.own⟩
theorem PTs.imp {ifs : List Expr} {t t' : TT} (p : PTs X ifs t) (i : ∀ σ H Q, t' σ H Q → t σ H Q) : PTs X ifs t' := ⟨fun pins s σ H Q I h => p.run pins s σ H Q I (i σ H Q h)⟩
theorem isi_step {c : Nat} (ihE : SE T M O c) (ok : CSok T M O S X W) (n : Nat) {p pos : Pos} {args : List Expr} {z : Ex} (g : Gl X "isinstance") (m : X.mg "isinstance" = none) (hx : cIsi (cEx c S) S args = some z) (hp : args.all plainX = true) : PE X (.Call (.Name "isinstance" p) args [] pos) (tF M W fun s h => (evStep T O (evs T O n)).e s z h) := by
  unfold cIsi at hx
  split at hx
  · rename_i a cs k tp
    rw [List.all_cons, Bool.and_eq_true] at hp
    split at hx
    · cases hx
    · rename_i hne
      obtain ⟨hl, hx⟩ := guardO_some hx
      obtain ⟨xa, ts, ea, et, rfl⟩ := bind2_some hx
      have tl := mapO_len et
      have hts : ts ≠ [] := fun q => by
        subst q
        cases cs with
        | nil => exact hne rfl
        | cons _ _ => cases tl
      refine se_isiT ok.tok g m (ihE W X S ok _ xa ea n) (tys_ok (c := c) ok et) hts ?_ hp.1
      rw [← tl]
      have := Nat.le_of_ble_eq_true hl
      exact Nat.ble_eq_true_of_le (by unfold Bnd; omega)
  · rename_i a d _
    rw [List.all_cons, Bool.and_eq_true] at hp
    obtain ⟨xa, t, ea, et, rfl⟩ := bind2_some hx
    obtain ⟨k1, k2⟩ := ty_ok ok et
    exact se_isi ok.tok g m (ihE W X S ok _ xa ea n) k1 hp.1 k2
  · cases hx
theorem call_step {c : Nat} (ihE : SE T M O c) (ok : CSok T M O S X W) (n : Nat) {x : Str} {p pos : Pos} {args : List Expr} {z : Ex} (hx : cCall (cEx c S) S x args = some z) (hp : args.all plainX = true) (hn : okName x = true) : PE X (.Call (.Name x p) args [] pos) (tF M W fun s h => (evStep T O (evs T O n)).e s z h) := by
  obtain ⟨n1, n2⟩ := okName_ok hn
  unfold cCall at hx
  split at hx
  · rename_i hb
    split at hx
    · rename_i hi
      have hi := of_decide_eq_true hi
      subst hi
      obtain ⟨g, m⟩ := bi_ok ok hb (by decide)
      exact isi_step ihE ok n g m hx hp
    · split at hx
      · rename_i hl
        have hl := of_decide_eq_true hl
        subst hl
        obtain ⟨g, m⟩ := bi_ok ok hb (by decide)
        unfold oneX at hx
        split at hx
        · rename_i a ea
          split at ea
          · cases ea
            obtain ⟨xa, ex, rfl⟩ := map_some hx
            rw [List.all_cons, Bool.and_eq_true] at hp
            exact se_lenI ok.lenM (ok.met T.lenM) ok.room g m (ihE W X S ok _ xa ex n) hp.1
          · cases ea
        · cases hx
      unfold cBlt at hx
      split at hx
      · rename_i b e es hb2
        obtain ⟨xs, ex, rfl⟩ := map_some hx
        obtain ⟨k1, k2, k3⟩ := bfs_ok hb2
        obtain ⟨g, m⟩ := bi_ok ok hb k3
        exact se_blt _ k2 k1 ok.calm g m (args_ok ihE ok n ex hp) hp
      · cases hx
  · split at hx
    · rename_i f hf
      obtain ⟨xs, ex, rfl⟩ := map_some hx
      obtain ⟨g, k1, k2, k3⟩ := gl_ok ok hf
      cases args with
      | nil =>
        cases ex
        exact se_call0 k3 ok.room k2 g k1 ok.tk n1
      | cons e es => exact se_call k3 ok.room k2 g k1 ok.tk (args_ok ihE ok n ex hp) hp n1
    · rename_i d hf
      obtain ⟨xs, ex, rfl⟩ := map_some hx
      obtain ⟨g, k1, k2⟩ := gl_ok ok hf
      show PE X _ (tF M W fun s h => match T.ini d with
        | some g => (evPs ((evs T O n).e s) xs h).bind fun vs h1 => mkF T O d g vs h1
        | none => (match Nat.blt 2 T.cur && (T.exc d).isSome with
          | true => (evPs ((evs T O n).e s) xs h).bind fun vs h1 => mkX T d vs h1
          | false => .no))
      cases hg : T.ini d with
      | none =>
        cases hb : Nat.blt 2 T.cur && (T.exc d).isSome with
        | false => exact pe_no fun _ _ => rfl
        | true =>
          rw [Bool.and_eq_true] at hb
          have l2 : 2 < T.cur := Nat.le_of_ble_eq_true hb.1
          have hr : Room 2 X.A := ok.room.mono (by omega)
          cases et : T.exc d with
          | none =>
            rw [et] at hb
            cases hb.2
          | some t =>
            obtain ⟨tf, tag, pf⟩ := t
            have xo := ok.xc d tf tag pf et
            cases args with
            | nil =>
              cases ex
              exact se_mkx0 xo et hr ok.tk g k1 n1
            | cons e es =>
              have hp2 := hp
              rw [List.all_cons, Bool.and_eq_true] at hp2
              exact se_mkx xo et hr ok.tk g k1 n1 (args_ok ihE ok n ex hp) (starEach_plain es X.env hp2.1) (noStar hp2.2)
      | some gi =>
        obtain ⟨k3, k4⟩ := k2 gi hg
        cases args with
        | nil =>
          cases ex
          exact se_mk0 k3 k4 ok.room g k1 ok.tk n1
        | cons e es => exact se_mk k3 k4 ok.room g k1 ok.tk (args_ok ihE ok n ex hp) hp n1
    · cases hx
theorem meth_step {c : Nat} (ihE : SE T M O c) (ok : CSok T M O S X W) (n : Nat) {o : Expr} {m : Str} {apos pos : Pos} {args : List Expr} {z : Ex} (hx : cMeth (cEx c S) S o m args = some z) (hp : args.all plainX = true) (hs : supB o = true) (hl : (apos.endLine == pos.line) = true) (hn : Nat.blt args.length 30 = true) : PE X (.Call (.Attribute o m apos) args [] pos) (tF M W fun s h => (evStep T O (evs T O n)).e s z h) := by
  unfold cMeth at hx
  split at hx
  · rename_i f hf
    obtain ⟨xs, ex, rfl⟩ := map_some hx
    unfold smOf at hf
    split at hf
    · rename_i x px
      split at hf
      · rename_i d ed
        split at hf
        · rename_i c' m' f' es
          obtain ⟨hb, hf⟩ := guardO_some hf
          cases hf
          rw [Bool.and_eq_true, Bool.and_eq_true] at hb
          obtain ⟨hb1, hb2, hb3⟩ := hb
          have e1 := Nat.eq_of_beq_eq_true hb2
          have e2 := of_decide_eq_true hb3
          subst e1 e2
          obtain ⟨g, k1, _⟩ := gl_ok ok ed
          obtain ⟨s1, s2⟩ : SmOk X.K M _ _ _ ∧ DBl X T M O _ := ok.gl _ _ es
          cases args with
          | nil =>
            cases ex
            exact se_sm0 s1 s2 ok.room g k1 ok.tk (okName_ok hb1).1 hl
          | cons e es => exact se_sm s1 s2 ok.room g k1 ok.tk (args_ok ihE ok n ex hp) hp (okName_ok hb1).1 hl hn
        · cases hf
      · cases hf
    · cases hf
  split at hx
  · rename_i k hk
    obtain ⟨xo, xs, eo, ex, rfl⟩ := bind2_some hx
    rw [fi_ok ok hk]
    cases args with
    | nil =>
      cases ex
      exact se_meth0 (ihE W X S ok o xo eo n) (ok.met k) ok.room ok.tk hs hl
    | cons e es => exact se_meth (ihE W X S ok o xo eo n) (ok.met k) ok.room ok.tk (args_ok ihE ok n ex hp) hp hs hl hn
  · split at hx
    · obtain ⟨hm, hx⟩ := guardO_some hx
      have hm := of_decide_eq_true hm
      subst hm
      obtain ⟨xo, eo, rfl⟩ := map_some hx
      exact se_bme0 .pop rfl (ihE W X S ok o xo eo n) hs hl
    · rename_i a
      rw [List.all_cons, Bool.and_eq_true] at hp
      split at hx
      · rename_i hm
        have hm := of_decide_eq_true hm
        subst hm
        obtain ⟨xo, xa, eo, ea, rfl⟩ := bind2_some hx
        exact se_join (ihE W X S ok o xo eo n) (ihE W X S ok a xa ea n) hp.1 hs hl
      · split at hx
        · rename_i hm
          have hm := of_decide_eq_true hm
          subst hm
          obtain ⟨xo, xa, eo, ea, rfl⟩ := bind2_some hx
          exact se_split (ihE W X S ok o xo eo n) (ihE W X S ok a xa ea n) hp.1 hs hl
        · obtain ⟨hm, hx⟩ := guardO_some hx
          have hm := of_decide_eq_true hm
          subst hm
          obtain ⟨xo, xs, eo, ex, rfl⟩ := bind2_some hx
          have hp2 : [a].all plainX = true := by rw [List.all_cons, hp.1]; rfl
          exact se_bme .append rfl (ihE W X S ok o xo eo n) (args_ok ihE ok n ex hp2) hp2 hs hl hn
    · cases hx
theorem kws_ok {c : Nat} (ihE : SE T M O c) (ok : CSok T M O S X W) (n : Nat) (pos : Pos) : ∀ {kws : List Keyword} {p : List Nat × List Ex}, cKws (cEx c S) S kws = some p → PK X kws (tFA M W fun s h => evPs ((evs T O n).e s) p.2 h) ∧ KwS X M kws p.1 pos
  | [], p, h => by
    cases h
    exact ⟨sk_nil, kwS_nil⟩
  | k :: r, p, h => by
    unfold cKws at h
    split at h
    · rename_i kn e kp
      split at h
      · rename_i i x p2 ei ex ep
        cases h
        obtain ⟨k1, k2⟩ := kws_ok ihE ok n pos ep
        rw [fi_ok ok ei]
        exact ⟨sk_cons (ihE W X S ok e x ex n) k1, kwS_cons k2⟩
      · cases h
    · cases h
theorem mkk_step {c : Nat} (ihE : SE T M O c) (ok : CSok T M O S X W) (n : Nat) {x kn : Str} {p kp pos : Pos} {e : Expr} {z : Ex} (hx : (match S.gl x with
    | some (.cls c0) => bind2 (cEx c S e) (S.fi kn) fun e k => Ex.mkk c0 k e
    | _ => none) = some z) (hn : okName x = true) : PE X (.Call (.Name x p) [] [⟨some kn, e, kp⟩] pos) (tF M W fun s h => (evStep T O (evs T O n)).e s z h) := by
  obtain ⟨n1, n2⟩ := okName_ok hn
  split at hx
  · rename_i d hf
    obtain ⟨xe, k, ee, ek, rfl⟩ := bind2_some hx
    obtain ⟨g, k1, k2⟩ := gl_ok ok hf
    show PE X _ (tF M W fun s h => match T.ini d with
      | some g => ((evs T O n).e s xe h).bind fun v h1 => mkK T O d g [k] [] [v] h1
      | none => (match Nat.blt 2 T.cur && xkey T d k with
        | true => ((evs T O n).e s xe h).bind fun v h1 => mkX T d [v] h1
        | false => .no))
    cases hi : T.ini d with
    | some gi =>
      obtain ⟨k3, k4⟩ := k2 gi hi
      rw [fi_ok ok ek]
      have pk : PK X [⟨some (M.an k), e, kp⟩] (tFA M W fun s h => ((evs T O n).e s xe h).bind fun v h1 => (Rs.ok ([] : List Va) h1).bind fun ys h2 => .ok (v :: ys) h2) := sk_cons (ihE W X S ok e xe ee n) sk_nil
      refine PE.imp (se_mkw0 k3 k4 ok.room g k1 ok.tk pk (kwS_cons kwS_nil) n1) fun σ H Q ⟨r, s, h, hs, he, q⟩ => ⟨r, s, h, hs, he, ?_⟩
      revert q
      show Cn M (XAt W σ) r H (((evs T O n).e s xe h).bind fun v h1 => mkK T O d gi [k] [] [v] h1) (RV M) Q → Cn M (XAt W σ) r H ((((evs T O n).e s xe h).bind fun v h1 => (Rs.ok ([] : List Va) h1).bind fun ys h2 => .ok (v :: ys) h2).bind fun us h2 => mkK T O d gi [k] [] us h2) (RV M) Q
      rw [as_bind]
      exact fun q => q
    | none =>
    cases hb : Nat.blt 2 T.cur && xkey T d k with
    | false => exact pe_no fun _ _ => rfl
    | true =>
      rw [Bool.and_eq_true] at hb
      have l2 : 2 < T.cur := Nat.le_of_ble_eq_true hb.1
      have hr : Room 2 X.A := ok.room.mono (by omega)
      have hk := hb.2
      unfold xkey at hk
      rw [Bool.and_eq_true] at hk
      obtain ⟨hs1, hk⟩ := hk
      split at hk
      · rename_i k' ek'
        have := Nat.eq_of_beq_eq_true hk
        subst this
        cases et : T.exc d with
        | none =>
          rw [et] at hs1
          cases hs1
        | some t =>
          obtain ⟨tf, tag, pf⟩ := t
          rw [fi_ok ok ek]
          exact se_mkk (ok.xk d _ tf tag pf et ek') et hr ok.tk g k1 n1 (ihE W X S ok e xe ee n)
      · cases hk
  · cases hx
theorem mkw_step {c : Nat} (ihE : SE T M O c) (ok : CSok T M O S X W) (n : Nat) {x : Str} {p pos : Pos} {a : Expr} {as : List Expr} {kws : List Keyword} {z : Ex} (hx : (match S.gl x with
    | some (.cls c0) => (match cKws (cEx c S) S kws with
      | some p => (mapO (cEx c S) (a :: as)).map fun es => Ex.mkw c0 es p.1 p.2
      | none => none)
    | _ => none) = some z) (hn : okName x = true) (hp : (a :: as).all plainX = true) : PE X (.Call (.Name x p) (a :: as) kws pos) (tF M W fun s h => (evStep T O (evs T O n)).e s z h) := by
  obtain ⟨n1, n2⟩ := okName_ok hn
  split at hx
  · rename_i d hf
    split at hx
    · rename_i pk ek
      obtain ⟨es, ee, rfl⟩ := map_some hx
      obtain ⟨g, k1, k2⟩ := gl_ok ok hf
      obtain ⟨q1, q2⟩ := kws_ok ihE ok n pos ek
      show PE X _ (tF M W fun s h => match T.ini d with
        | some g => (evPs ((evs T O n).e s) es h).bind fun vs h1 => (evPs ((evs T O n).e s) pk.2 h1).bind fun us h2 => mkK T O d g pk.1 vs us h2
        | none => .no)
      cases hi : T.ini d with
      | some gi =>
        obtain ⟨k3, k4⟩ := k2 gi hi
        exact se_mkw k3 k4 ok.room g k1 ok.tk (args_ok ihE ok n ee hp) hp q1 q2 n1
      | none => exact pe_no fun _ _ => rfl
    · cases hx
  · cases hx
theorem metw_step {c : Nat} (ihE : SE T M O c) (ok : CSok T M O S X W) (n : Nat) {o : Expr} {m : Str} {apos pos : Pos} {args : List Expr} {kws : List Keyword} {z : Ex} (hx : (match S.fi m, cKws (cEx c S) S kws with
    | some k, some p => bind2 (cEx c S o) (mapO (cEx c S) args) fun o es => Ex.metw o k es p.1 p.2
    | _, _ => none) = some z) (hs : supB o = true) (hp : args.all plainX = true) (hl : (apos.endLine == pos.line) = true) (hn : Nat.blt (args.length + kws.length) 29 = true) : PE X (.Call (.Attribute o m apos) args kws pos) (tF M W fun s h => (evStep T O (evs T O n)).e s z h) := by
  split at hx
  · rename_i k pk ek ep
    obtain ⟨xo, es, eo, ee, rfl⟩ := bind2_some hx
    obtain ⟨q1, q2⟩ := kws_ok ihE ok n pos ep
    rw [fi_ok ok ek]
    refine se_metw (ihE W X S ok o xo eo n) (ok.met k) ok.room ok.tk ?_ hp q1 q2 hs hl hn
    cases args with
    | nil =>
      cases ee
      exact .inl ⟨rfl, rfl⟩
    | cons e es' => exact .inr ⟨e, es', rfl, args_ok ihE ok n ee hp⟩
  · cases hx
/-- a lambda's body -/
theorem lam_ok (ok : CSok T M O S X W) {sc : Scope} (L : LamX.LamS X.env.scope sc) {A : Around} {outer : List Env} {s : Shared} {H : Hp} {E : XK} {f c' : Addr} (hr : Room (T.cur - 1) (A.deeper (LamX.lamEnv X sc s.heap.objs.size f c'))) :
    CSok T M O { S with sc := sc, lam := false } (LamX.lamCx X A outer s H E sc f c') (fun cls d _ H' => E cls d H') where
  N := ok.N
  nd := ok.nd
  scl := fun x h => absurd rfl (L.own _ (PySem.mem_of_lookup h)).1
  scc := fun x h => absurd rfl (L.own _ (PySem.mem_of_lookup h)).2
  scf := fun x h => .inr h
  scg := fun x h => h
  kd := L.kind
  un := by
    have := hr.un
    show (A.deeper (LamX.lamEnv X sc s.heap.objs.size f c')).units + 65 < cLine
    omega
  calm := rfl
  tk := takes_of rfl rfl rfl rfl
  room := hr
  gl := fun x g h => by
    have q := ok.gl x g h
    cases g <;> exact q
  bi := ok.bi
  an := ok.an
  tok := ok.tok
  met := ok.met
  lenM := ok.lenM
  lam := fun h => by cases h
  xc := ok.xc
  xk := ok.xk
  prp := ok.prp
  stp := ok.stp
  fn := fun x h => by
    rcases h with k | k
    · exact absurd rfl (L.own _ (PySem.mem_of_lookup k)).1
    · exact absurd rfl (L.own _ (PySem.mem_of_lookup k)).2
theorem lamS_rel (ok : CSok T M O S X W) {sc : Scope} (h : LamX.lamSB S.sc sc = true) : LamX.LamS X.env.scope sc := by
  have L := LamX.lamS_by h
  exact ⟨L.kind, L.co, L.gen, L.own, fun y hy e => by
    rcases L.free y hy e with k | k
    · exact .inl (ok.scc _ k)
    · exact ok.scf _ k⟩
theorem any_mem {i : Nat} {l : List Nat} (h : l.any (Nat.beq i) = true) : i ∈ l := by
  obtain ⟨x, hx, e⟩ := List.any_eq_true.mp h
  rw [Nat.eq_of_beq_eq_true e]
  exact hx
theorem no_star {e : Expr} {is : List Nat} {j : Nat} (h : cLT S e = some (.star is j)) : False := by
  unfold cLT at h
  split at h
  · obtain ⟨i, _, e⟩ := map_some h
    cases e
  · obtain ⟨i, _, e⟩ := map_some h
    cases e
  · cases h
/-- the parts of a comprehension -/
theorem lc_parts {c : Nat} (ihE : SE T M O c) (ihB : SB T M O c) (ok : CSok T M O S X W) (n : Nat) {elt tg iter : Expr} {ifs : List Expr} {sc : Scope} {z : Ex} (hx : cLc (cEx c) (cTs c) S elt tg iter ifs sc = some z) :
    ∃ wi g tt te, PI X tg iter wi ∧ BlkOk X.N X.env.scope sc (ownOf S.N sc) ∧ (∀ (s : Shared) (H : Hp) (C : Addr) (cl : List (Str × Addr)) (fp : List Addr), PG (X.blk s H sc (compEnvC sc cl C X.env) fp) tg g) ∧
      (∀ (s : Shared) (H : Hp) (C : Addr) (cl : List (Str × Addr)) (fp : List Addr), PTs (X.blk s H sc (compEnvC sc cl C X.env) fp) ifs tt) ∧ (∀ (s : Shared) (H : Hp) (C : Addr) (cl : List (Str × Addr)) (fp : List Addr), PE (X.blk s H sc (compEnvC sc cl C X.env) fp) elt te) ∧
      noSet iter = true ∧ ∀ σ H Q, tF M W (fun s h => (evStep T O (evs T O n)).e s z h) σ H Q → tLc wi g tt te ((ownOf S.N sc).map (·.2)) σ H Q := by
  unfold cLc at hx
  split at hx
  · rename_i k it t hi ht
    obtain ⟨hb, hx⟩ := guardO_some hx
    rw [Bool.and_eq_true] at hb
    obtain ⟨⟨wi, io⟩, ns⟩ := it_ok ihE ok n hi
    have bo := blkOk_of ok hb.1
    have hN : ∀ (s : Shared) (H : Hp) (C : Addr) (cl : List (Str × Addr)) (fp : List Addr), ∃ g, PG (X.blk s H sc (compEnvC sc cl C X.env) fp) tg g ∧ LtOk X t g := fun s H C cl fp => lt_ok (blk_ok ok sc bo.kind s H C cl fp) ht
    have hw : ∀ i ∈ t.slots, i ∈ (ownOf S.N sc).map (·.2) := fun i hi => any_mem (List.all_eq_true.mp hb.2 i hi)
    obtain ⟨g, hg⟩ : ∃ g, (∀ (s : Shared) (H : Hp) (C : Addr) (cl : List (Str × Addr)) (fp : List Addr), PG (X.blk s H sc (compEnvC sc cl C X.env) fp) tg g) ∧ LtOk X t g := by
      cases t with
      | one i =>
        refine ⟨gName i, fun s H C cl fp => ?_, rfl⟩
        obtain ⟨g, k1, k2⟩ := hN s H C cl fp
        cases k2
        exact k1
      | many is =>
        refine ⟨gTup X.K is.length (is.foldr (fun i u => gCons (gName i) u) gNil), fun s H C cl fp => ?_, rfl⟩
        obtain ⟨g, k1, k2⟩ := hN s H C cl fp
        cases k2
        exact k1
      | star is j => exact (no_star ht).elim
    split at hx
    · obtain ⟨xe, ee, rfl⟩ := map_some hx
      exact ⟨wi, g, _, _, io.pi, bo, hg.1, (fun s H C cl fp => PTs.imp pts_nil fun σ H Q ⟨r, s, h, hs, he, q⟩ => Cn.ok (v := true) q he rfl), (fun s H C cl fp => ihE _ _ _ (blk_ok ok sc bo.kind s H C cl fp) elt xe ee n), ns, fun σ H Q q => lc_read (cs := fun s2 h2 => .ok true h2) (el := fun s2 h2 => (evs T O n).e s2 xe h2) io hg.2 hw σ H Q q⟩
    · obtain ⟨xe, xd, ee, ed, rfl⟩ := bind2_some hx
      exact ⟨wi, g, _, _, io.pi, bo, hg.1, (fun s H C cl fp => pts_one (ihB _ _ _ (blk_ok ok sc bo.kind s H C cl fp) _ xd ed n)), (fun s H C cl fp => ihE _ _ _ (blk_ok ok sc bo.kind s H C cl fp) elt xe ee n), ns, fun σ H Q q => lc_read (cs := fun s2 h2 => (evs T O n).t s2 xd h2) (el := fun s2 h2 => (evs T O n).e s2 xe h2) io hg.2 hw σ H Q q⟩
    · cases hx
  · cases hx
theorem lc_step {c : Nat} (ihE : SE T M O c) (ihB : SB T M O c) (ok : CSok T M O S X W) (n : Nat) {elt tg iter : Expr} {ifs : List Expr} {sc : Scope} {pos : Pos} {z : Ex} (hx : cLc (cEx c) (cTs c) S elt tg iter ifs sc = some z) : PE X (.ListComp elt [⟨tg, iter, ifs, 0⟩] sc pos) (tF M W fun s h => (evStep T O (evs T O n)).e s z h) := by
  obtain ⟨wi, g, tt, te, k1, k2, k3, k4, k5, ns, k6⟩ := lc_parts ihE ihB ok n hx
  exact PE.imp (pe_lc ok.calm ok.nd k1 k2 k3 k4 k5 (nofold ns)) fun σ H Q q => k6 σ H Q q
/-- x = [..] on one line, x a local: stored within -/
theorem lc_set {c : Nat} (ihE : SE T M O c) (ihB : SB T M O c) (ok : CSok T M O S X W) (n : Nat) {elt tg iter : Expr} {ifs : List Expr} {sc : Scope} {pos py spos : Pos} {z : Ex} {i : Nat} {y : Str} (hx : cLc (cEx c) (cTs c) S elt tg iter ifs sc = some z) (hy : X.N[i]? = some y) (hyl : X.env.scope.names.lookup y = some .local)
    (hsw : swapsWith (.ListComp elt [⟨tg, iter, ifs, 0⟩] sc pos) (some (.Name y py)) spos.line X.env = pure true) : PS X (.Assign [.Name y py] (.ListComp elt [⟨tg, iter, ifs, 0⟩] sc pos) spos) (tS M W fun s h => ((evStep T O (evs T O n)).e s z h).st s fun v h1 => .nx (s.set i (some v)) h1) := by
  obtain ⟨wi, g, tt, te, k1, k2, k3, k4, k5, ns, k6⟩ := lc_parts ihE ihB ok n hx
  exact PS.imp (ps_setLc ok.calm ok.nd hy hyl hsw k1 k2 k3 k4 k5 (nofold ns)) fun D σ H ⟨r, s, h, hs, he, q⟩ => k6 σ H _ ⟨r, s, h, hs, he, (Cs.st (R := RV M) hs q).mono fun y H1 ⟨r1, v, h1, g1, z1, q1⟩ => Cs.nx q1 g1.emb ((hs.mono g1.pre).set z1)⟩
/-- the parts of a dict comprehension -/
theorem dc_step {c : Nat} (ihE : SE T M O c) (ihB : SB T M O c) (ok : CSok T M O S X W) (n : Nat) {kx vx tg iter : Expr} {ifs : List Expr} {sc : Scope} {pos : Pos} {z : Ex} (hx : cDc (cEx c) (cTs c) S kx vx tg iter ifs sc = some z) : PE X (.DictComp kx vx [⟨tg, iter, ifs, 0⟩] sc pos) (tF M W fun s h => (evs T O n).e s z h) := by
  cases n with
  | zero => exact pe_no fun _ _ => rfl
  | succ n =>
    unfold cDc at hx
    split at hx
    · rename_i k it t hi ht
      obtain ⟨hb, hx⟩ := guardO_some hx
      rw [Bool.and_eq_true] at hb
      obtain ⟨⟨wi, io⟩, ns⟩ := it_ok ihE ok n hi
      have bo := blkOk_of ok hb.1
      have hN : ∀ (s : Shared) (H : Hp) (C : Addr) (cl : List (Str × Addr)) (fp : List Addr), ∃ g, PG (X.blk s H sc (compEnvC sc cl C X.env) fp) tg g ∧ LtOk X t g := fun s H C cl fp => lt_ok (blk_ok ok sc bo.kind s H C cl fp) ht
      have hw : ∀ i ∈ t.slots, i ∈ (ownOf S.N sc).map (·.2) := fun i hi => any_mem (List.all_eq_true.mp hb.2 i hi)
      obtain ⟨g, hg⟩ : ∃ g, (∀ (s : Shared) (H : Hp) (C : Addr) (cl : List (Str × Addr)) (fp : List Addr), PG (X.blk s H sc (compEnvC sc cl C X.env) fp) tg g) ∧ LtOk X t g := by
        cases t with
        | one i =>
          refine ⟨gName i, fun s H C cl fp => ?_, rfl⟩
          obtain ⟨g, k1, k2⟩ := hN s H C cl fp
          cases k2
          exact k1
        | many is =>
          refine ⟨gTup X.K is.length (is.foldr (fun i u => gCons (gName i) u) gNil), fun s H C cl fp => ?_, rfl⟩
          obtain ⟨g, k1, k2⟩ := hN s H C cl fp
          cases k2
          exact k1
        | star is j => exact (no_star ht).elim
      split at hx
      · obtain ⟨xk, xv, ek, ev, rfl⟩ := bind2_some hx
        exact PE.imp (pe_dc ok.calm ok.nd io.pi bo hg.1 (fun s H C cl fp => PTs.imp pts_nil fun σ H Q ⟨r, s, h, hs, he, q⟩ => Cn.ok (v := true) q he rfl) (fun s H C cl fp => ihE _ _ _ (blk_ok ok sc bo.kind s H C cl fp) kx xk ek n) (fun s H C cl fp => ihE _ _ _ (blk_ok ok sc bo.kind s H C cl fp) vx xv ev n) (nofold ns))
          fun σ H Q q => dc_read (cs := fun s2 h2 => .ok true h2) (kx := fun s2 h2 => (evs T O n).e s2 xk h2) (vx := fun s2 h2 => (evs T O n).e s2 xv h2) io hg.2 hw σ H Q q
      · split at hx
        · rename_i xd ed
          obtain ⟨xk, xv, ek, ev, rfl⟩ := bind2_some hx
          exact PE.imp (pe_dc ok.calm ok.nd io.pi bo hg.1 (fun s H C cl fp => pts_one (ihB _ _ _ (blk_ok ok sc bo.kind s H C cl fp) _ xd ed n)) (fun s H C cl fp => ihE _ _ _ (blk_ok ok sc bo.kind s H C cl fp) kx xk ek n) (fun s H C cl fp => ihE _ _ _ (blk_ok ok sc bo.kind s H C cl fp) vx xv ev n) (nofold ns))
            fun σ H Q q => dc_read (cs := fun s2 h2 => (evs T O n).t s2 xd h2) (kx := fun s2 h2 => (evs T O n).e s2 xk h2) (vx := fun s2 h2 => (evs T O n).e s2 xv h2) io hg.2 hw σ H Q q
        · cases hx
      · cases hx
    · cases hx
/-- the step -/
theorem step_e {c : Nat} (ihE : SE T M O c) (ihB : SB T M O c) : SE T M O (c + 1) := by
  intro W X S ok e x hx n
  cases n with
  | zero => exact pe_no fun _ _ => rfl
  | succ n =>
    have hx : cStep (cEx c) (cTs c) S e = some x := hx
    show PE X e (tF M W fun s h => (evStep T O (evs T O n)).e s x h)
    unfold cStep at hx
    split at hx
    · rename_i y pos
      obtain ⟨hn, hx⟩ := guardO_some hx
      obtain ⟨n1, n2⟩ := okName_ok hn
      split at hx
      · rename_i i hi
        cases hx
        obtain ⟨k1, k2⟩ := sl_ok ok hi
        exact se_var k1 k2 n1 n2
      · split at hx
        · rename_i v hv
          cases hx
          obtain ⟨g, u, yv, k1, k2, k3⟩ := gl_ok ok hv
          exact se_cst (pe_glob g k1 k2 n1) k3
        · cases hx
    · obtain ⟨v, e1, rfl⟩ := map_some hx
      exact cst_ok e1
    · rename_i a o b pos
      split at hx
      · rename_i o2 eo
        obtain ⟨xa, xb, ea, eb, rfl⟩ := bind2_some hx
        rw [cBO_ok eo]
        exact se_bin o2 (ihE W X S ok _ xa ea n) (ihE W X S ok _ xb eb n)
      · cases hx
    · rename_i o a pos
      split at hx
      · obtain ⟨xa, ea, rfl⟩ := map_some hx
        exact se_neg (ihE W X S ok _ xa ea n)
      · obtain ⟨xa, ea, rfl⟩ := map_some hx
        exact se_not (ihE W X S ok _ xa ea n)
      · cases hx
    · rename_i o es pos
      split at hx
      · rename_i xs ex
        exact foldB_ok ihE ok _ ex hx (n + 1)
      · cases hx
    · rename_i d a b pos
      split at hx
      · rename_i xd ed
        obtain ⟨xa, xb, ea, eb, rfl⟩ := bind2_some hx
        exact se_ite (ihB W X S ok _ xd ed n) (ihE W X S ok _ xa ea n) (ihE W X S ok _ xb eb n)
      · cases hx
    · rename_i a b pos
      obtain ⟨hn, hx⟩ := guardO_some hx
      obtain ⟨xa, ea, rfl⟩ := map_some hx
      unfold isNC at hn
      split at hn
      · exact se_isN (ihE W X S ok _ xa ea n)
      · cases hn
    · rename_i a b pos
      obtain ⟨hn, hx⟩ := guardO_some hx
      obtain ⟨xa, ea, rfl⟩ := map_some hx
      unfold isNC at hn
      split at hn
      · exact se_notN (ihE W X S ok _ xa ea n)
      · cases hn
    · rename_i a o b pos _ _
      obtain ⟨hn, hx⟩ := guardO_some hx
      split at hx
      · rename_i o2 eo
        obtain ⟨xa, xb, ea, eb, rfl⟩ := bind2_some hx
        rw [cCO_ok eo]
        exact se_cmp ok.un o2 (ihE W X S ok _ xa ea n) (ihE W X S ok _ xb eb n) (noSet_ok hn)
      · cases hx
    · rename_i a o p b d pos
      obtain ⟨hn, hx⟩ := guardO_some hx
      rw [Bool.and_eq_true] at hn
      split at hx
      · rename_i o2 p2 eo ep
        split at hx
        · rename_i xa ea
          obtain ⟨xb, xd, eb, ed, rfl⟩ := bind2_some hx
          rw [cCO_ok eo, cCO_ok ep]
          exact se_chn ok.un o2 p2 (ihE W X S ok _ xa ea n) (ihE W X S ok _ xb eb n) (ihE W X S ok _ xd ed n) (noSet_ok hn.2)
        · cases hx
      · cases hx
    · rename_i es pos
      obtain ⟨xs, ex, rfl⟩ := map_some hx
      exact se_lst (items_okE ihE ok n ex)
    · rename_i es k pos
      obtain ⟨xs, ex, rfl⟩ := map_some hx
      exact se_tup (items_okE ihE ok n ex)
    · obtain ⟨xa, ea, rfl⟩ := map_some hx
      exact se_rev (ihE W X S ok _ xa ea n)
    · rename_i a lo hi p2 pos _
      split at hx
      · rename_i xa ea
        have pa := ihE W X S ok _ xa ea n
        split at hx
        · cases hx
          exact se_slc pa so_none so_none
        · obtain ⟨xl, el, rfl⟩ := map_some hx
          exact se_slc pa (so_some (ihE W X S ok _ xl el n)) so_none
        · obtain ⟨xu, eu, rfl⟩ := map_some hx
          exact se_slc pa so_none (so_some (ihE W X S ok _ xu eu n))
        · obtain ⟨xl, xu, el, eu, rfl⟩ := bind2_some hx
          exact se_slc pa (so_some (ihE W X S ok _ xl el n)) (so_some (ihE W X S ok _ xu eu n))
      · cases hx
    · rename_i a b pos _ _
      obtain ⟨hn, hx⟩ := guardO_some hx
      obtain ⟨xa, xb, ea, eb, rfl⟩ := bind2_some hx
      exact se_idx ok.un (ihE W X S ok _ xa ea n) (ihE W X S ok _ xb eb n) (plainIx hn)
    · rename_i a f pos
      obtain ⟨hn, hx⟩ := guardO_some hx
      obtain ⟨xa, i, ea, ef, rfl⟩ := bind2_some hx
      rw [fi_ok ok ef]
      exact se_fld (ihE W X S ok _ xa ea n) ok.tok (ok.prp i) ok.room hn
    · rename_i y p body sc lp pos _
      obtain ⟨hn, hx⟩ := guardO_some hx
      rw [Bool.and_eq_true] at hn
      have L := lamS_rel ok hn.2
      split at hx
      · rename_i hf
        obtain ⟨xb, eb, rfl⟩ := map_some hx
        obtain ⟨g, wy⟩ := gl_ok ok hf
        exact se_why (ev := fun s h => (evs T O n).e s xb h) wy (ok.lam hn.1) g L fun A outer s H E f c' hr => ihE _ _ _ (lam_ok ok L hr) body xb eb n
      · cases hx
    · obtain ⟨hn, hx⟩ := guardO_some hx
      rw [Bool.and_eq_true] at hn
      exact call_step ihE ok n hx hn.1 hn.2
    · obtain ⟨hn, hx⟩ := guardO_some hx
      exact mkk_step ihE ok n hx hn
    · obtain ⟨hn, hx⟩ := guardO_some hx
      rw [Bool.and_eq_true] at hn
      exact mkw_step ihE ok n hx hn.1 hn.2
    · obtain ⟨hn, hx⟩ := guardO_some hx
      rw [Bool.and_eq_true, Bool.and_eq_true, Bool.and_eq_true] at hn
      exact metw_step ihE ok n hx hn.1.1.1 hn.1.1.2 hn.1.2 hn.2
    · obtain ⟨hn, hx⟩ := guardO_some hx
      rw [Bool.and_eq_true, Bool.and_eq_true, Bool.and_eq_true] at hn
      exact meth_step ihE ok n hx hn.1.1.2 hn.1.1.1 hn.1.2 hn.2
    · exact lc_step ihE ihB ok n hx
    · cases hx
      exact se_dlt
    · split at hx
      · rename_i a ea
        obtain ⟨xk, xv, ek, ev, rfl⟩ := bind2_some hx
        exact se_dst (ihE W X S ok _ a ea n) (ihE W X S ok _ xk ek n) (ihE W X S ok _ xv ev n)
      · cases hx
    · obtain ⟨z, ez, rfl⟩ := map_some hx
      exact se_lck (ev := (evs T O n).e) (dc_step ihE ihB ok n ez)
    · cases hx
end
end MP
set_option linter.all false
set_option maxRecDepth 100000
set_option maxHeartbeats 8000000
/-! Tests, statements. -/
namespace MP
open PySem L2
section
variable {T : Tb} {M : Wd} {O : Orc} {X : Cx} {W : WX} {S : CS}
theorem foldT_ok {c : Nat} (ihB : SB T M O c) (ok : CSok T M O S X W) (o : BoolOp) {pos : Pos} : ∀ {es : List Expr} {xs : List Ex} {x : Ex}, mapO (cTs c S) es = some xs → foldB o xs = some x → ∀ n, PW X (.BoolOp o es pos) (tFT M W fun s h => (evs T O n).t s x h)
  | [], xs, x, h, hf, n => by
    cases h
    cases hf
  | [e], xs, x, h, hf, n => by
    obtain ⟨y, ys, e1, e2, rfl⟩ := mapO_cons h
    cases e2
    obtain rfl : y = x := Option.some.inj hf
    cases o with
    | And => exact st_and1 (ihB W X S ok e y e1 n)
    | Or => exact st_or1 (ihB W X S ok e y e1 n)
  | e :: e2 :: es, xs, x, h, hf, n => by
    obtain ⟨y, ys, h1, h2, rfl⟩ := mapO_cons h
    obtain ⟨y2, ys2, h3, h4, rfl⟩ := mapO_cons h2
    have hf : (match foldB o (y2 :: ys2) with
      | none => none
      | some z => some (joinB o y z)) = some x := hf
    cases hz : foldB o (y2 :: ys2) with
    | none =>
      rw [hz] at hf
      cases hf
    | some z =>
      rw [hz] at hf
      cases n with
      | zero => exact ⟨fun wh pins s σ H Q I ⟨r, sm, hh, hs, he, q⟩ => q.elim⟩
      | succ n =>
        have ih := foldT_ok ihB ok o (pos := pos) h2 hz n
        have i1 := ihB W X S ok e y h1 n
        obtain rfl : joinB o y z = x := Option.some.inj hf
        cases o with
        | And => exact st_and i1 ih
        | Or => exact st_or i1 ih
/-- a comparison as a test -/
theorem st_chn (hu : X.A.units + 65 < cLine) (o p : CO) {a b d : Expr} {fa fb fc : Fr → Hv → Rs Va} {pos : Pos} (ha : PE X a (tF M W fa)) (hb : PE X b (tF M W fb)) (hc : PE X d (tF M W fc)) (hm : behindInMarks (cOp p) d = false) :
    PT X (.Compare a [cOp o, cOp p] [b, d] pos) (tFT M W fun s h => (fChn o p fa fb fc s h).bind fun v h1 => truth v h1) :=
  st_bl (pt_chain (o_cmp hu o) (o_cmp hu p) ha hb hc hm) (fun σ H Q q => chn_ok (K := X.K) (ta := tF M W fa) (tb := tF M W fb) (tc := tF M W fc) (a := a) (b := b) (c := d) σ H Q q) fun s h v h1 e => by
    unfold fChn at e
    revert e
    cases fa s h with
    | no => exact fun e => by cases e
    | ex c f h2 => exact fun e => by cases e
    | ok x h2 =>
      show ((fb s h2).bind fun y h2 => (opCmp o x y h2).bind fun k h3 => match k with
      | true => (fc s h3).bind fun z h4 => bl (opCmp p y z h4)
      | false => .ok (.bl false) h3) = .ok v h1 → _
      cases fb s h2 with
      | no => exact fun e => by cases e
      | ex c f h3 => exact fun e => by cases e
      | ok y h3 =>
        show ((opCmp o x y h3).bind fun k h3 => match k with
        | true => (fc s h3).bind fun z h4 => bl (opCmp p y z h4)
        | false => .ok (.bl false) h3) = .ok v h1 → _
        cases opCmp o x y h3 with
        | no => exact fun e => by cases e
        | ex c f h4 => exact fun e => by cases e
        | ok k h4 =>
          cases k with
          | false =>
            intro e
            cases e
            exact ⟨false, rfl⟩
          | true =>
            show ((fc s h4).bind fun z h4 => bl (opCmp p y z h4)) = .ok v h1 → _
            cases fc s h4 with
            | no => exact fun e => by cases e
            | ex c f h5 => exact fun e => by cases e
            | ok z h5 =>
              show bl (opCmp p y z h5) = .ok v h1 → _
              cases opCmp p y z h5 with
              | no => exact fun e => by cases e
              | ex c f h6 => exact fun e => by cases e
              | ok k2 h6 =>
                intro e
                cases e
                exact ⟨k2, rfl⟩
theorem step_b {c : Nat} (ihE : SE T M O c) (ihB : SB T M O c) (ihE1 : SE T M O (c + 1)) : SB T M O (c + 1) := by
  intro W X S ok e x hx n
  cases n with
  | zero => exact pt_no fun _ _ => rfl
  | succ n =>
    have hx : cTst (cEx c) (cTs c) S e = some x := hx
    show PT X e (tFT M W fun s h => (evStep T O (evs T O n)).t s x h)
    unfold cTst at hx
    split at hx
    · rename_i hl
      obtain ⟨y, ey, rfl⟩ := map_some hx
      show PT X e (tFT M W fun s h => ((evs T O n).e s y h).bind fun v h1 => truth v h1)
      have pe : PE X e (tF M W fun s h => (evs T O n).e s y h) := ihE1 W X S ok e y ey n
      cases e with
      | UnaryOp o a pos =>
        cases o with
        | Not => cases hl
        | _ => exact st_truth pe fun _ => rfl
      | BoolOp _ _ _ => cases hl
      | IfExp _ _ _ _ => cases hl
      | Compare a ops cs pos =>
        cases n with
        | zero => exact pt_no fun _ _ => rfl
        | succ n =>
          show PT X _ (tFT M W fun s h => ((evStep T O (evs T O n)).e s y h).bind fun v h1 => truth v h1)
          unfold cStep at ey
          split at ey <;> first
            | contradiction
            | skip
          · rename_i heq
            cases heq
            obtain ⟨hn, ey⟩ := guardO_some ey
            obtain ⟨xa, ea, rfl⟩ := map_some ey
            unfold isNC at hn
            split at hn
            · exact st_isN (ihE W X S ok _ xa ea n)
            · cases hn
          · rename_i heq
            cases heq
            obtain ⟨hn, ey⟩ := guardO_some ey
            obtain ⟨xa, ea, rfl⟩ := map_some ey
            unfold isNC at hn
            split at hn
            · exact st_notN (ihE W X S ok _ xa ea n)
            · cases hn
          · rename_i heq
            cases heq
            obtain ⟨hn, ey⟩ := guardO_some ey
            split at ey
            · rename_i o2 eo
              obtain ⟨xa, xb, ea, eb, rfl⟩ := bind2_some ey
              rw [cCO_ok eo]
              exact st_cmp ok.un o2 (ihE W X S ok _ xa ea n) (ihE W X S ok _ xb eb n) (noSet_ok hn)
            · cases ey
          · rename_i heq
            cases heq
            obtain ⟨hn, ey⟩ := guardO_some ey
            rw [Bool.and_eq_true] at hn
            split at ey
            · rename_i o2 p2 eo ep
              split at ey
              · rename_i xa ea
                obtain ⟨xb, xd, eb, ed, rfl⟩ := bind2_some ey
                rw [cCO_ok eo, cCO_ok ep]
                exact st_chn ok.un o2 p2 (ihE W X S ok _ xa ea n) (ihE W X S ok _ xb eb n) (ihE W X S ok _ xd ed n) (noSet_ok hn.2)
              · cases ey
            · cases ey
      | _ => exact st_truth pe fun _ => rfl
    · split at hx
      · obtain ⟨xa, ea, rfl⟩ := map_some hx
        exact st_not (ihB W X S ok _ xa ea n)
      · split at hx
        · rename_i xs ex
          exact (foldT_ok ihB ok _ ex hx (n + 1)).pt
        · cases hx
      · cases hx
theorem sound (c : Nat) : SE T M O c ∧ SB T M O c := by
  induction c with
  | zero => exact ⟨fun W X S ok e x h => (by cases h), fun W X S ok e x h => (by cases h)⟩
  | succ c ih =>
    have e1 := step_e ih.1 ih.2
    exact ⟨e1, step_b ih.1 ih.2 e1⟩
end
end MP
set_option linter.all false
set_option maxRecDepth 100000
set_option maxHeartbeats 8000000
/-! Several targets. -/
namespace MP
open PySem L2
section
variable {T : Tb} {M : Wd} {O : Orc} {X : Cx} {W : WX} {S : CS} {K : PySem.W.Frag}
def gFld (K : PySem.W.Frag) (to : TE) (f : Str) : TG := fun v σ H Q => to σ H fun x H1 => ∃ a C dx fs, x = .ref a ∧ H1 a = some (.ins C dx fs) ∧ Cls K C ∧ NoAttr K C f ∧ fs.length < 1000 ∧ Q σ (upd H1 a (.ins C dx (putF f v fs)))
theorem pg_fldX {o : Expr} {f : Str} {to : TE} {pos : Pos} (ho : PE X o to) : PG X (.Attribute o f pos) (gFld X.K to f) := by
  refine ⟨fun pins s σ H v u Q I r h => ?_⟩
  show wpAny (model X.prog X.w) X.A (do
    let ov ← holding [u] (eval o X.env)
    standAt pos.atName
    holding [u, ov] (setAttr ov f u)
    release [u, ov] []) _ _ s
  refine wpAny_bind (wpAny_holding (thn (ho.run pins s σ H _ I h) fun ov s1 ⟨x, H1, I1, r1, a, C, dx, fs, ex, ea, c, n, l, q⟩ => ?_))
  subst ex
  obtain rfl : ov = Value.ref a := r1
  exact wpAny_bind (wpAny_standAt (wpAny_bind (wpAny_holding (setattr_ok I1 ea c n l r fun s3 I3 => wpAny_release ⟨σ, _, I3, q⟩))))
/-- a target that does as the small one -/
def TgOk (M : Wd) (W : WX) (g : TG) (f : Va → Fr → Hv → RS) : Prop := ∀ (r : List Addr) (s : Fr) (h : Hv) (σ : L2.St) (H : Hp) (v : Va) (x : V) (D : Ends), RF M r s σ → Emb M r h H → RV M r v x → Cs M W D r H (f v s h) → g x σ H D.nx
theorem tg_var {i : Nat} {ev : Fr → Ex → Hv → Rs Va} : TgOk M W (gName i) (asgT ev T O (.var i)) := fun r s h σ H v x D hs he z q => Cs.nx (D := D) q he (hs.set z)
theorem tg_fld {o : Ex} {f : Nat} {ev : Fr → Ex → Hv → Rs Va} (tk : TOk T M K) : TgOk M W (gFld K (tF M W fun s h => ev s o h) (M.an f)) (asgT ev T O (.fld o f)) := fun r s h σ H v x D hs he z q => tF.stS (D := D) hs he q fun r1 y h1 y1 H1 g1 hs1 he1 z1 q1 => by
  cases y with
  | ref a =>
    have q1 : Cs M W D r1 H1 (match h1.get a with
      | some (.ins c fs) => (match T.fld c f && Nat.blt fs.length 1000 with
        | true => .nx s (h1.set a (.ins c (putFl f v fs)))
        | false => .no)
      | _ => .no) := q1
    split at q1
    · rename_i c fs e
      obtain ⟨p, dx, ys, rfl, hp, hh, ls⟩ := get_ins he1 e z1
      split at q1
      · rename_i e2
        rw [Bool.and_eq_true] at e2
        obtain ⟨ok, na⟩ := tk.fld c f e2.1
        refine ⟨p, M.ca c, dx, ys, rfl, hh, (tk.cls c ok).cl, na, ?_, ?_⟩
        · rw [← RFs.length ls]
          exact Nat.le_of_ble_eq_true e2.2
        · have g := he1.set hp hh True.intro (o := .ins c (putFl f v fs)) (u := .ins (M.ca c) dx (putF (M.an f) x ys)) ⟨dx, _, rfl, putFl_ok M ls (z.mono g1.pre)⟩
          exact q1 r1 σ _ g hs1
      · exact q1.elim
    · exact q1.elim
  | _ => exact q1.elim
theorem tg_sub {o i : Ex} {ev : Fr → Ex → Hv → Rs Va} : TgOk M W (gSub (tF M W fun s h => ev s o h) (tF M W fun s h => ev s i h) rSetL) (asgT ev T O (.sub o i)) := fun r s h σ H v x D hs he z q => tF.stS (D := D) hs he q fun r1 y h1 y1 H1 g1 hs1 he1 z1 q1 => tF.stS (D := D) hs1 he1 q1 fun r2 k h2 y2 H2 g2 hs2 he2 z2 q2 => by
  cases y with
  | ref a =>
    have q2 : Cs M W D r2 H2 (match h2.get a with
      | some (.lst xs) => (match (generalizing := false) k with
        | .int k => (match ixO xs.length k with
          | some j => .nx s (h2.set a (.lst (xs.set j v)))
          | none => .no)
        | _ => .no)
      | _ => .no) := q2
    split at q2
    · rename_i xs ea
      cases k with
      | int k =>
        have q2 : Cs M W D r2 H2 (match ixO xs.length k with
          | some j => .nx s (h2.set a (.lst (xs.set j v)))
          | none => .no) := q2
        split at q2
        · rename_i j ej
          obtain ⟨p, ys, rfl, hp, hl, ls⟩ := get_lst he2 ea (z1.mono g2.pre)
          refine ⟨p, ys, k, j, rfl, z2, hl, by rw [← ls.length, ← ixO_ok]; exact ej, ?_⟩
          have g := he2.set hp hl True.intro (o := .lst (xs.set j v)) (u := .lst (ys.set j x)) ⟨_, rfl, pSet ls ((z.mono g1.pre).mono g2.pre) j⟩
          exact q2 r2 σ _ g hs2
        · exact q2.elim
      | _ => exact q2.elim
    · exact q2.elim
  | _ => exact q2.elim
/-- a target of the text -/
theorem tgt_ok {c : Nat} (ok : CSok T M O S X W) (n : Nat) {tg : Expr} {t : Tg} (ht : cTg (cEx c S) S tg = some t) : ∃ g, PG X tg g ∧ TgOk M W g (asgT (evs T O n).e T O t) := by
  unfold cTg at ht
  split at ht
  · obtain ⟨i, ei, rfl⟩ := map_some ht
    obtain ⟨k1, k2, k3⟩ := ws_ok ok ei
    exact ⟨_, pg_name ok.nd k1 k2 k3, tg_var⟩
  · obtain ⟨hs, ht⟩ := guardO_some ht
    obtain ⟨xo, i, eo, ei, rfl⟩ := bind2_some ht
    rw [fi_ok ok ei]
    exact ⟨_, pg_fldX ((sound c).1 W X S ok _ xo eo n), tg_fld ok.tok⟩
  · obtain ⟨hs, ht⟩ := guardO_some ht
    obtain ⟨xo, xi, eo, ei, rfl⟩ := bind2_some ht
    exact ⟨_, pg_sub ((sound c).1 W X S ok _ xo eo n) ((sound c).1 W X S ok _ xi ei n) set_list (asg_sub hs), tg_sub⟩
  · cases ht
/-- several -/
def TgsOk (M : Wd) (W : WX) (g : TGs) (f : List Va → Fr → Hv → RS) : Prop := ∀ (r : List Addr) (s : Fr) (h : Hv) (σ : L2.St) (H : Hp) (vs : List Va) (xs : List V) (D : Ends), RF M r s σ → Emb M r h H → RVs M r vs xs → Cs M W D r H (f vs s h) → g xs σ H D.nx
theorem asg_plain {e : Expr} (es : List Expr) (env : Env) (h : plainX e = true) : assignEach (e :: es) env = (false, assign e env) :: assignEach es env := by
  cases e <;> first | rfl | cases h
theorem tgts_ok {c : Nat} (ok : CSok T M O S X W) (n : Nat) : ∀ {es : List Expr} {ts : List Tg}, mapO (cTg (cEx c S) S) es = some ts → es.all plainX = true → ∃ g, PGs X es g ∧ TgsOk M W g (asgL (asgT (evs T O n).e T O) ts) ∧ (assignEach es X.env).length = ts.length ∧ (assignEach es X.env).findIdx? (·.1) = none
  | [], ts, h, _ => by
    cases h
    refine ⟨gNil, pgs_nil, fun r s h σ H vs xs D hs he z q => ?_, rfl, rfl⟩
    cases vs with
    | nil =>
      cases z
      exact ⟨rfl, Cs.nx (D := D) q he hs⟩
    | cons _ _ => exact q.elim
  | e :: es, ts, h, hp => by
    rw [List.all_cons, Bool.and_eq_true] at hp
    obtain ⟨y, ys, e1, e2, rfl⟩ := mapO_cons h
    obtain ⟨g1, k1, k2⟩ := tgt_ok ok n e1
    obtain ⟨g2, k3, k4, k5, k6⟩ := tgts_ok ok n e2 hp.2
    refine ⟨gCons g1 g2, pgs_cons k1 k3 (by rw [asg_plain es X.env hp.1]; rfl), fun r s h σ H vs xs D hs he z q => ?_, ?_, ?_⟩
    · cases z with
      | nil => exact q.elim
      | cons z1 z2 =>
        rename_i v x vs xs
        refine ⟨x, xs, rfl, k2 r s h σ H v x { D with nx := fun σ' H' => g2 xs σ' H' D.nx } hs he z1 ?_⟩
        have q : Cs M W D r H ((asgT (evs T O n).e T O y v s h).nxt fun s1 h1 => asgL (asgT (evs T O n).e T O) ys vs s1 h1) := q
        have g0 : ∀ {x : RS} {k : Fr → Hv → RS}, Cs M W D r H (x.nxt k) → Cs M W { D with nx := fun σ' H' => ∃ r1 s1 h1, Gro M r H h1 r1 H' ∧ RF M r1 s1 σ' ∧ Cs M W D r1 H' (k s1 h1) } r H x := fun {x k} q => by
          cases x with
          | nx s h => exact fun r2 σ2 H2 g2 z => ⟨r2, s, h, g2, z, q.later g2⟩
          | rt v h => exact q
          | bk s h => exact q
          | ct s h => exact q
          | ex c f s h => exact q
          | no => exact q
        exact (g0 q).imp (fun σ H ⟨r1, s1, h1, g, zz, q1⟩ => k4 r1 s1 h1 σ H vs xs D zz g.emb (RVs.mono g.pre z2) q1) (fun _ _ z => z) (fun _ _ z => z) (fun _ _ z => z)
    · rw [asg_plain es X.env hp.1]
      exact congrArg Nat.succ k5
    · rw [asg_plain es X.env hp.1, List.findIdx?_cons, k6]
      rfl
theorem asgN_ok {f : Tg → Va → Fr → Hv → RS} {ts : List Tg} {vs : List Va} {s : Fr} {h : Hv} {D : Ends} {r : List Addr} {H : Hp} (q : Cs M W D r H (asgN f ts vs s h)) : vs.length = ts.length ∧ Cs M W D r H (asgL f ts vs s h) := by
  unfold asgN at q
  cases e : Nat.beq vs.length ts.length with
  | false =>
    rw [e] at q
    exact q.elim
  | true =>
    rw [e] at q
    exact ⟨Nat.eq_of_beq_eq_true e, q⟩
/-- a, b = e -/
theorem ss_asgs {ts : List Expr} {e : Expr} {k : Nat} {tp pos : Pos} {g : TGs} {f : Fr → Hv → Rs Va} {A : Tg → Va → Fr → Hv → RS} {tgs : List Tg} (hc : X.calm = true) (he : PE X e (tF M W f)) (hn : noLC e = true) (ht : notTup e = true) (hg : PGs X ts g) (hk : TgsOk M W g (asgL A tgs)) (hl : (assignEach ts X.env).length = tgs.length) (hst : (assignEach ts X.env).findIdx? (·.1) = none) :
    PS X (.Assign [.Tuple ts k tp] e pos) (tS M W fun s h => (f s h).st s fun v h1 => (match v with
      | .ref a => (match h1.rd a with
        | some (.tup vs) => asgN A tgs vs s h1
        | _ => .no)
      | _ => .no)) := by
  have hw : swappedStores [.Tuple ts k tp] e X.env = pure none := by
    unfold swappedStores
    cases e <;> first | rfl | cases ht
  have hs : swapsWithSole [.Tuple ts k tp] e pos.line X.env = pure false := swaps1 hn
  refine PS.imp (ps_asg he (pg_tup hc hg hl hst) hs hw) fun D σ H ⟨r, s, h, hs, he, q⟩ => tF.stS hs he q fun r1 v h1 y H1 g1 hs1 he1 z1 q1 => ?_
  cases v with
  | ref a =>
    have q1 : Cs M W D r1 H1 (match h1.rd a with
      | some (.tup vs) => asgN A tgs vs s h1
      | _ => .no) := q1
    split at q1
    · rename_i vs e
      obtain ⟨p, ys, rfl, hp, hl2, ls⟩ := rd_tup he1 e z1 X.K
      obtain ⟨hn2, q1⟩ := asgN_ok q1
      refine ⟨p, ys, rfl, hl2, by rw [← ls.length]; exact hn2, hk r1 s h1 σ H1 vs ys D hs1 he1 ls q1⟩
    · exact q1.elim
  | _ => exact q1.elim
/-- how the stores are laid, by the scope alone -/
theorem sw_eq {sc : Scope} {ts vs : List Expr} {k k2 : Nat} {p p2 : Pos} {env : Env} {o : Option (List Str)} (hsc : env.scope = sc) (h : swQ sc ts vs = some o) : swappedStores [.Tuple ts k p] (.Tuple vs k2 p2) env = pure o := by
  subst hsc
  unfold swQ at h
  unfold swappedStores
  show (if (!(ts.length == 2 || ts.length == 3) || vs.length != ts.length || env.blockKind != .function) = true then pure none
    else if vs.any isStarX = true then pure none
    else if ((ts.filterMap (lnN env.scope (hdLine ts))).length != ts.length || (ts.filterMap (lnN env.scope (hdLine ts))).eraseDups.length != (ts.filterMap (lnN env.scope (hdLine ts))).length) = true then pure none
    else if vs.all (foldedForSure 8) = true then pure none
    else if vs.all (constantsAlone 8) = true then (do
      unsupported "assign.tuple-of-constant-expressions:order-of-the-stores"
      pure (some (ts.filterMap (lnN env.scope (hdLine ts)))))
    else pure (some (ts.filterMap (lnN env.scope (hdLine ts))))) = pure o
  by_cases c1 : (!(ts.length == 2 || ts.length == 3) || vs.length != ts.length || env.blockKind != .function) = true
  · have h := (if_pos c1).symm.trans h
    cases h
    exact if_pos c1
  · have h := (if_neg c1).symm.trans h
    rw [if_neg c1]
    by_cases c2 : vs.any isStarX = true
    · have h := (if_pos c2).symm.trans h
      cases h
      exact if_pos c2
    · have h := (if_neg c2).symm.trans h
      rw [if_neg c2]
      by_cases c3 : ((ts.filterMap (lnN env.scope (hdLine ts))).length != ts.length || (ts.filterMap (lnN env.scope (hdLine ts))).eraseDups.length != (ts.filterMap (lnN env.scope (hdLine ts))).length) = true
      · have h := (if_pos c3).symm.trans h
        cases h
        exact if_pos c3
      · have h := (if_neg c3).symm.trans h
        rw [if_neg c3]
        by_cases c4 : vs.all (foldedForSure 8) = true
        · have h := (if_pos c4).symm.trans h
          cases h
          exact if_pos c4
        · have h := (if_neg c4).symm.trans h
          rw [if_neg c4]
          by_cases c5 : vs.all (constantsAlone 8) = true
          · have h := (if_pos c5).symm.trans h
            cases h
          · have h := (if_neg c5).symm.trans h
            cases h
            exact if_neg c5
/-- a, b = x, y with a tuple between -/
theorem ss_parT {ts es : List Expr} {k k2 : Nat} {tp ep pos : Pos} {g : TGs} {ga : Fr → Hv → Rs (List Va)} {A : Tg → Va → Fr → Hv → RS} {tgs : List Tg} (hc : X.calm = true) (ha : PA X es (tFA M W ga)) (hw : swappedStores [.Tuple ts k tp] (.Tuple es k2 ep) X.env = pure none) (hg : PGs X ts g) (hk : TgsOk M W g (asgL A tgs)) (hl : (assignEach ts X.env).length = tgs.length) (hst : (assignEach ts X.env).findIdx? (·.1) = none) :
    PS X (.Assign [.Tuple ts k tp] (.Tuple es k2 ep) pos) (tS M W fun s h => (ga s h).st s fun vs h1 => gdS (Nat.ble vs.length Bnd) (asgN A tgs vs s h1)) := by
  have hs : swapsWithSole [.Tuple ts k tp] (.Tuple es k2 ep) pos.line X.env = pure false := swaps1 rfl
  refine PS.imp (ps_asg (pe_tup ha) (pg_tup hc hg hl hst) hs hw) fun D σ H ⟨r, s, h, hs, he, q⟩ => tFA.stS hs he q fun r1 vs h1 ys H1 g1 hs1 he1 z1 q1 => ?_
  cases hb : Nat.ble vs.length Bnd with
  | false =>
    rw [hb] at q1
    exact q1.elim
  | true =>
    rw [hb] at q1
    obtain ⟨hn2, q1⟩ := asgN_ok (show Cs M W D r1 H1 (asgN A tgs vs s h1) from q1)
    refine ⟨by rw [← z1.length]; exact bnd_line hb, fun p hp => ?_⟩
    have g2 := he1.laid (u := .tup ys) hp
    exact ⟨p, ys, rfl, SqT.of upd_same, by rw [← z1.length]; exact hn2, hk r1 s h1 σ _ vs ys D hs1 g2.emb z1 (q1.later g2)⟩
/-- the stores of local names, laid from the right -/
theorem ss_par2 {i j : Nat} {x y : Str} {a b : Expr} {ga : Fr → Hv → Rs (List Va)} {ev : Fr → Ex → Hv → Rs Va} {px py pt pos : Pos} {kt k2 pt2} (hc : X.calm = true) (hN : X.N.Nodup) (hi : X.N[i]? = some x) (hj : X.N[j]? = some y) (hij : i ≠ j)
    (hx : X.env.scope.names.lookup x = some .local) (hy : X.env.scope.names.lookup y = some .local) (ha : PA X [a, b] (tFA M W ga)) (hw : swappedStores [.Tuple [.Name x px, .Name y py] kt pt] (.Tuple [a, b] k2 pt2) X.env = pure (some [x, y])) :
    PS X (.Assign [.Tuple [.Name x px, .Name y py] kt pt] (.Tuple [a, b] k2 pt2) pos) (tS M W fun s h => (ga s h).st s fun vs h1 => gdS (Nat.ble vs.length Bnd) (asgN (asgT ev T O) [.var i, .var j] vs s h1)) :=
  PS.imp (ps_par hc hN hi hj hij hx hy ha hw) fun D σ H ⟨r, s, h, hs, he, q⟩ => tFA.stS hs he q fun r1 vs h1 ys H1 g1 hs1 he1 z1 q1 => by
    cases hb : Nat.ble vs.length Bnd with
    | false =>
      rw [hb] at q1
      exact q1.elim
    | true =>
      rw [hb] at q1
      obtain ⟨hn2, q1⟩ := asgN_ok (show Cs M W D r1 H1 (asgN (asgT ev T O) [.var i, .var j] vs s h1) from q1)
      cases z1 with
      | nil => cases hn2
      | cons z1 t1 =>
        cases t1 with
        | nil => cases hn2
        | cons z2 t2 =>
          cases t2 with
          | cons _ _ => cases hn2
          | nil => exact ⟨_, _, rfl, Cs.nx (h := h1) q1 he1 ((hs1.set z1).set z2)⟩
theorem ss_par3 {i j l : Nat} {x y z : Str} {a b d : Expr} {ga : Fr → Hv → Rs (List Va)} {ev : Fr → Ex → Hv → Rs Va} {px py pz pt pos : Pos} {kt k2 pt2} (hc : X.calm = true) (hN : X.N.Nodup) (hi : X.N[i]? = some x) (hj : X.N[j]? = some y) (hl : X.N[l]? = some z) (hij : i ≠ j) (hil : i ≠ l) (hjl : j ≠ l)
    (hx : X.env.scope.names.lookup x = some .local) (hy : X.env.scope.names.lookup y = some .local) (hz : X.env.scope.names.lookup z = some .local) (ha : PA X [a, b, d] (tFA M W ga)) (hw : swappedStores [.Tuple [.Name x px, .Name y py, .Name z pz] kt pt] (.Tuple [a, b, d] k2 pt2) X.env = pure (some [x, y, z])) :
    PS X (.Assign [.Tuple [.Name x px, .Name y py, .Name z pz] kt pt] (.Tuple [a, b, d] k2 pt2) pos) (tS M W fun s h => (ga s h).st s fun vs h1 => gdS (Nat.ble vs.length Bnd) (asgN (asgT ev T O) [.var i, .var j, .var l] vs s h1)) :=
  PS.imp (ps_par3 hc hN hi hj hl hij hil hjl hx hy hz ha hw) fun D σ H ⟨r, s, h, hs, he, q⟩ => tFA.stS hs he q fun r1 vs h1 ys H1 g1 hs1 he1 z1 q1 => by
    cases hb : Nat.ble vs.length Bnd with
    | false =>
      rw [hb] at q1
      exact q1.elim
    | true =>
      rw [hb] at q1
      obtain ⟨hn2, q1⟩ := asgN_ok (show Cs M W D r1 H1 (asgN (asgT ev T O) [.var i, .var j, .var l] vs s h1) from q1)
      cases z1 with
      | nil => cases hn2
      | cons z1 t1 =>
        cases t1 with
        | nil => cases hn2
        | cons z2 t2 =>
          cases t2 with
          | nil => cases hn2
          | cons z3 t3 =>
            cases t3 with
            | cons _ _ => cases hn2
            | nil => exact ⟨_, _, _, rfl, Cs.nx (h := h1) q1 he1 (((hs1.set z1).set z2).set z3)⟩
theorem ix_ne {N : List Str} {i j : Nat} {x y : Str} (hi : N[i]? = some x) (hj : N[j]? = some y) (h : x ≠ y) : i ≠ j := fun e => by
  subst e
  rw [hi] at hj
  cases hj
  exact h rfl
/-- the names of swapped stores are locals -/
theorem sw_loc {sc : Scope} {ts vs : List Expr} {l : List Str} (h : swQ sc ts vs = some (some l)) : l = ts.filterMap (lnN sc (hdLine ts)) ∧ l.length = ts.length := by
  unfold swQ at h
  by_cases c1 : (!(ts.length == 2 || ts.length == 3) || vs.length != ts.length || (if sc.kind.isAnnotationScope then ScopeKind.function else sc.kind) != .function) = true
  · have h := (if_pos c1).symm.trans h
    cases h
  · have h := (if_neg c1).symm.trans h
    by_cases c2 : vs.any isStarX = true
    · have h := (if_pos c2).symm.trans h
      cases h
    · have h := (if_neg c2).symm.trans h
      by_cases c3 : ((ts.filterMap (lnN sc (hdLine ts))).length != ts.length || (ts.filterMap (lnN sc (hdLine ts))).eraseDups.length != (ts.filterMap (lnN sc (hdLine ts))).length) = true
      · have h := (if_pos c3).symm.trans h
        cases h
      · have h := (if_neg c3).symm.trans h
        by_cases c4 : vs.all (foldedForSure 8) = true
        · have h := (if_pos c4).symm.trans h
          cases h
        · have h := (if_neg c4).symm.trans h
          by_cases c5 : vs.all (constantsAlone 8) = true
          · have h := (if_pos c5).symm.trans h
            cases h
          · have h := (if_neg c5).symm.trans h
            cases h
            refine ⟨rfl, ?_⟩
            simp only [Bool.or_eq_true, bne_iff_ne, ne_eq, not_or, Decidable.not_not] at c3
            exact c3.1
theorem lnN_loc {sc : Scope} {n : Nat} {x y : Str} {p : Pos} (h : lnN sc n (.Name x p) = some y) : y = x ∧ sc.names.lookup x = some .local := by
  have h : (if sc.names.lookup x == some .local && p.line == n then some x else none) = some y := h
  split at h
  · rename_i c
    cases h
    rw [Bool.and_eq_true] at c
    exact ⟨rfl, beq_iff_eq.mp c.1⟩
  · cases h
theorem par_step {c : Nat} (ok : CSok T M O S X W) (hsc : X.env.scope = S.sc) (n : Nat) {ts es : List Expr} {k k2 : Nat} {tp ep pos : Pos} {x : St} (hx : cPar (cTg (cEx c S) S) (cEx c S) S ts es = some x) :
    PS X (.Assign [.Tuple ts k tp] (.Tuple es k2 ep) pos) (tS M W fun s h => (evs T O (n + 1)).s s x h) := by
  have pe : ∀ {e y}, cEx c S e = some y → ∀ n, PE X e (tF M W fun s h => (evs T O n).e s y h) := fun h n => (sound (T := T) (M := M) (O := O) c).1 W X S ok _ _ h n
  unfold cPar at hx
  split at hx
  · cases hx
  · rename_i hw
    obtain ⟨hp, hx⟩ := guardO_some hx
    rw [Bool.and_eq_true] at hp
    obtain ⟨tgs, xs, et, ex, rfl⟩ := bind2_some hx
    obtain ⟨g, k1, k2', k3, k4⟩ := tgts_ok ok n et hp.1
    exact ss_parT ok.calm (args_ok (sound c).1 ok n ex hp.2) (sw_eq hsc hw) k1 k2' k3 k4
  · rename_i l hw
    have hl := sw_loc hw
    have sw := sw_eq (k := k) (k2 := k2) (p := tp) (p2 := ep) hsc hw
    split at hx
    · rename_i x px y py a b
      obtain ⟨hp, hx⟩ := guardO_some hx
      simp only [Bool.and_eq_true, Bool.not_eq_true', decide_eq_false_iff_not] at hp
      split at hx
      · rename_i i j ei ej
        obtain ⟨xa, xb, ea, eb, rfl⟩ := bind2_some hx
        obtain ⟨i1, _, _⟩ := ws_ok ok ei
        obtain ⟨j1, _, _⟩ := ws_ok ok ej
        obtain ⟨h1, h2⟩ := hl
        cases e1 : lnN S.sc (hdLine [Expr.Name x px, .Name y py]) (.Name x px) with
        | none =>
          rw [h1, List.filterMap_cons_none e1] at h2
          have := List.length_filterMap_le (lnN S.sc (hdLine [Expr.Name x px, .Name y py])) [Expr.Name y py]
          rw [h2] at this
          simp at this
        | some x' =>
          cases e2 : lnN S.sc (hdLine [Expr.Name x px, .Name y py]) (.Name y py) with
          | none =>
            rw [h1, List.filterMap_cons_some e1, List.filterMap_cons_none e2] at h2
            simp at h2
          | some y' =>
            obtain ⟨rfl, l1⟩ := lnN_loc e1
            obtain ⟨rfl, l2⟩ := lnN_loc e2
            rw [h1, List.filterMap_cons_some e1, List.filterMap_cons_some e2] at sw
            exact ss_par2 ok.calm ok.nd i1 j1 (ix_ne i1 j1 hp.2) (ok.scl _ l1) (ok.scl _ l2) (sa_two hp.1.1 hp.1.2 (pe ea n) (pe eb n)) sw
      · cases hx
    · rename_i x px y py z pz a b d
      obtain ⟨hp, hx⟩ := guardO_some hx
      simp only [Bool.and_eq_true, Bool.not_eq_true', decide_eq_false_iff_not] at hp
      split at hx
      · rename_i i j l2 ei ej el
        split at hx
        · rename_i xa ea
          obtain ⟨xb, xd, eb, ed, rfl⟩ := bind2_some hx
          obtain ⟨i1, _, _⟩ := ws_ok ok ei
          obtain ⟨j1, _, _⟩ := ws_ok ok ej
          obtain ⟨l1', _, _⟩ := ws_ok ok el
          obtain ⟨h1, h2⟩ := hl
          cases e1 : lnN S.sc (hdLine [Expr.Name x px, .Name y py, .Name z pz]) (.Name x px) with
          | none =>
            rw [h1, List.filterMap_cons_none e1] at h2
            have := List.length_filterMap_le (lnN S.sc (hdLine [Expr.Name x px, .Name y py, .Name z pz])) [Expr.Name y py, .Name z pz]
            rw [h2] at this
            simp at this
          | some x' =>
            cases e2 : lnN S.sc (hdLine [Expr.Name x px, .Name y py, .Name z pz]) (.Name y py) with
            | none =>
              rw [h1, List.filterMap_cons_some e1, List.filterMap_cons_none e2] at h2
              have := List.length_filterMap_le (lnN S.sc (hdLine [Expr.Name x px, .Name y py, .Name z pz])) [Expr.Name z pz]
              rw [List.length_cons] at h2
              simp only [List.length_cons, List.length_nil] at h2 this
              omega
            | some y' =>
              cases e3 : lnN S.sc (hdLine [Expr.Name x px, .Name y py, .Name z pz]) (.Name z pz) with
              | none =>
                rw [h1, List.filterMap_cons_some e1, List.filterMap_cons_some e2, List.filterMap_cons_none e3] at h2
                simp at h2
              | some z' =>
                obtain ⟨rfl, l1⟩ := lnN_loc e1
                obtain ⟨rfl, l2⟩ := lnN_loc e2
                obtain ⟨rfl, l3⟩ := lnN_loc e3
                rw [h1, List.filterMap_cons_some e1, List.filterMap_cons_some e2, List.filterMap_cons_some e3] at sw
                exact ss_par3 ok.calm ok.nd i1 j1 l1' (ix_ne i1 j1 hp.1.1.2) (ix_ne i1 l1' hp.1.2) (ix_ne j1 l1' hp.2) (ok.scl _ l1) (ok.scl _ l2) (ok.scl _ l3) (sa_cons hp.1.1.1.1.1 (pe ea n) (sa_two hp.1.1.1.1.2 hp.1.1.1.2 (pe eb n) (pe ed n))) sw
        · cases hx
      · cases hx
    · cases hx
end
end MP
set_option linter.all false
set_option maxRecDepth 100000
set_option maxHeartbeats 8000000
/-! Statements, defs. -/
namespace MP
open PySem L2
section
variable {T : Tb} {M : Wd} {O : Orc} {X : Cx} {W : WX} {S : CS}
theorem ps_no {st : Stmt} {f : Fr → Hv → RS} (h : ∀ s h, f s h = .no) : PS X st (tS M W f) := ⟨fun pins s σ H D I ⟨r, sm, hh, hs, he, q⟩ => by
  rw [h] at q
  exact q.elim⟩
theorem cs_eq {D : Ends} {r : List Addr} {H : Hp} {x y : RS} (e : x = y) (q : Cs M W D r H x) : Cs M W D r H y := e ▸ q
theorem tg_ok {c : Nat} (ok : CSok T M O S X W) (n : Nat) {tg e : Expr} {t : Tg} {y : Ex} {pos : Pos} (ht : cTg (cEx c S) S tg = some t) (hdc : okDc tg e = true) (hy : cEx c S e = some y) : PS X (.Assign [tg] e pos) (tS M W fun s h => ((evs T O n).e s y h).st s fun v h1 => asgT (evs T O n).e T O t v s h1) := by
  have pe := (sound (T := T) (M := M) (O := O) c).1 W X S ok e y hy n
  unfold cTg at ht
  split at ht
  · rename_i x p
    obtain ⟨i, ei, rfl⟩ := map_some ht
    obtain ⟨k1, k2, k3⟩ := ws_ok ok ei
    by_cases hl : noLC e = true
    · exact ss_set ok.nd k1 k2 pe (swaps_no hl) k3
    · cases c with
      | zero => cases hy
      | succ c =>
        have hy : cStep (cEx c) (cTs c) S e = some y := hy
        cases e with
        | ListComp elt gens sc lp =>
          have sw : swapsWith (.ListComp elt gens sc lp) (some (.Name x p)) pos.line X.env = pure (X.env.blockKind == .function && X.env.kindOf x == some .local && p.line == lp.line && !(sc.names.any fun (n, k) => n == x && (k == .local || k == .cell))) := rfl
          cases hb : (X.env.blockKind == .function && X.env.kindOf x == some .local && p.line == lp.line && !(sc.names.any fun (n, k) => n == x && (k == .local || k == .cell))) with
          | false =>
            rw [hb] at sw
            exact ss_set ok.nd k1 k2 pe sw k3
          | true =>
            rw [hb] at sw
            simp only [Bool.and_eq_true] at hb
            have hyl : X.env.scope.names.lookup x = some .local := beq_iff_eq.mp hb.1.1.2
            unfold cStep at hy
            split at hy <;> first
              | contradiction
              | skip
            rename_i heq
            cases heq
            cases n with
            | zero => exact ps_no fun _ _ => rfl
            | succ n => exact lc_set (sound c).1 (sound c).2 ok n hy k1 hyl sw
        | SetComp _ _ _ _ => cases hy
        | DictComp _ _ _ _ _ => cases hdc
        | _ => exact absurd rfl hl
  · obtain ⟨hs, ht⟩ := guardO_some ht
    obtain ⟨xo, i, eo, ei, rfl⟩ := bind2_some ht
    rw [fi_ok ok ei]
    exact ss_fld ok.tok ((sound c).1 W X S ok _ xo eo n) pe
  · obtain ⟨hs, ht⟩ := guardO_some ht
    obtain ⟨xo, xi, eo, ei, rfl⟩ := bind2_some ht
    exact ss_sub ((sound c).1 W X S ok _ xo eo n) ((sound c).1 W X S ok _ xi ei n) pe hs
  · cases ht
/-- blocks of statements -/
def SS (T : Tb) (M : Wd) (O : Orc) (c m : Nat) : Prop := ∀ (W : WX) (X : Cx) (S : CS), CSok T M O S X W → X.env.scope = S.sc → PassesOwn (model X.prog X.w) X.A X.env X.xe → ∀ b xs, cSs c m S b = some xs → ∀ n, PSs X b (tS M W fun s h => evB (evs T O n).s xs s h)
theorem st_step {c m : Nat} (ih : SS T M O c m) (ok : CSok T M O S X W) (hsc : X.env.scope = S.sc) (hp : PassesOwn (model X.prog X.w) X.A X.env X.xe) {st : Stmt} {x : St} (hx : cSt (cSs c m) c S st = some x) (n : Nat) : PS X st (tS M W fun s h => (evs T O n).s s x h) := by
  cases n with
  | zero => exact ps_no fun _ _ => rfl
  | succ n =>
    have pe : ∀ {e y}, cEx c S e = some y → ∀ n, PE X e (tF M W fun s h => (evs T O n).e s y h) := fun h n => (sound (T := T) (M := M) (O := O) c).1 W X S ok _ _ h n
    have pt : ∀ {e y}, cTs c S e = some y → ∀ n, PT X e (tFT M W fun s h => (evs T O n).t s y h) := fun h n => (sound (T := T) (M := M) (O := O) c).2 W X S ok _ _ h n
    have pb : ∀ {b y}, cSs c m S b = some y → ∀ n, PSs X b (tS M W fun s h => evB (evs T O n).s y s h) := fun h n => ih W X S ok hsc hp _ _ h n
    unfold cSt at hx
    split at hx
    · cases hx
      exact ss_pass
    · cases hx
      exact ss_brk
    · cases hx
      exact ss_cont
    · cases hx
      cases n with
      | zero => exact ps_no fun _ _ => rfl
      | succ n => exact ss_retN
    · obtain ⟨y, ey, rfl⟩ := map_some hx
      exact ss_ret (pe ey n)
    · cases hx
      exact ss_doc
    · obtain ⟨hl, hx⟩ := guardO_some hx
      obtain ⟨y, ey, rfl⟩ := map_some hx
      exact ss_exp (pe ey n) hl
    · exact par_step ok hsc n hx
    · obtain ⟨hl, hx⟩ := guardO_some hx
      rw [Bool.and_eq_true, Bool.and_eq_true] at hl
      obtain ⟨tgs, y, et, ey, rfl⟩ := bind2_some hx
      obtain ⟨g, k1, k2, k3, k4⟩ := tgts_ok ok n et hl.1.2
      exact ss_asgs ok.calm (pe ey n) hl.1.1 hl.2 k1 k2 k3 k4
    · obtain ⟨hs, hx⟩ := guardO_some hx
      split at hx
      · rename_i k ek
        obtain ⟨a, y, ea, ey, rfl⟩ := bind2_some hx
        rw [fi_ok ok ek]
        exact ss_fldP ok.tok (ok.stp k) ok.room ok.tk (pe ea n) (pe ey n)
      · cases hx
    · obtain ⟨hdc, hx⟩ := guardO_some hx
      obtain ⟨t, y, et, ey, rfl⟩ := bind2_some hx
      exact tg_ok ok n et hdc ey
    · split at hx
      · rename_i o eo
        obtain ⟨i, y, ei, ey, rfl⟩ := bind2_some hx
        obtain ⟨k1, k2, k3⟩ := ws_ok ok ei
        rw [cBO_ok eo]
        exact ss_aug ok.nd k1 k2 (pe ey n) k3
      · cases hx
    · split at hx
      · rename_i y ey
        obtain ⟨ya, yb, ea, eb, rfl⟩ := bind2_some hx
        exact ss_if (pt ey n) (pb ea n) (pb eb n)
      · cases hx
    · obtain ⟨y, yb, ey, eb, rfl⟩ := bind2_some hx
      exact ss_whl (wh := fun n s h => (evs T O n).s s (.whl y yb) h) hp (fun n => pt ey n) (fun n => pb eb n) (fun _ _ => rfl) (fun _ _ _ => rfl) (n + 1)
    · split at hx
      · rename_i k it t hi ht
        obtain ⟨y, ey, rfl⟩ := map_some hx
        obtain ⟨⟨wi, io⟩, ns⟩ := it_ok (sound c).1 ok n hi
        obtain ⟨g, k1, k2⟩ := lt_ok ok ht
        exact ss_for hp ok.calm io k1 k2 (pb ey n) (nofold ns)
      · cases hx
    · rename_i x p args p1 p2
      obtain ⟨hl, hx⟩ := guardO_some hx
      rw [Bool.and_eq_true] at hl
      obtain ⟨n1, n2⟩ := okName_ok hl.2
      split at hx
      · rename_i cl eg
        obtain ⟨ys, ey, rfl⟩ := map_some hx
        obtain ⟨g, k1, _⟩ := gl_ok ok eg
        have hq : ∀ s h, (evs T O (n + 1)).s s (.rais cl ys) h = (match Nat.blt 2 T.cur && (T.exc cl).isSome with
          | true => (evPs ((evs T O n).e s) ys h).st s fun vs h1 => raiseF T cl vs s h1
          | false => .no) := fun _ _ => rfl
        cases hc : Nat.blt 2 T.cur && (T.exc cl).isSome with
        | false => exact ps_no fun s h => by rw [hq, hc]
        | true =>
          have hcc : (Nat.blt 2 T.cur && (T.exc cl).isSome) = true := hc
          rw [Bool.and_eq_true] at hcc
          have hcur : 2 < T.cur := Nat.le_of_ble_eq_true hcc.1
          have hr : Room 2 X.A := ok.room.mono (by omega)
          have he : ∀ s h, (evs T O (n + 1)).s s (.rais cl ys) h = (evPs ((evs T O n).e s) ys h).st s fun vs h1 => raiseF T cl vs s h1 := fun s h => by rw [hq, hc]
          cases et : T.exc cl with
          | none =>
            rw [et] at hcc
            exact absurd hcc.2 (by decide)
          | some z =>
            obtain ⟨tf, tag, pf⟩ := z
            have xo := ok.xc _ _ _ _ et
            cases args with
            | nil =>
              cases ey
              exact PS.imp (ss_rais0 xo et hr ok.calm ok.tk g k1 n1) fun D σ H ⟨r, s, h, hs, hem, q⟩ => ⟨r, s, h, hs, hem, cs_eq (he s h) q⟩
            | cons e es =>
              have hp := hl.1
              rw [noStarB, List.all_cons, Bool.and_eq_true] at hp
              refine PS.imp (ss_rais xo et hr ok.calm ok.tk g k1 n1 (args_ok (sound c).1 ok n ey hl.1) (starEach_plain es X.env hp.1) (noStar hp.2)) fun D σ H ⟨r, s, h, hs, hem, q⟩ => ⟨r, s, h, hs, hem, ?_⟩
              exact cs_eq (he s h) q
      · cases hx
    · cases hx
theorem soundS (c m : Nat) : SS T M O c m := by
  induction m with
  | zero => exact fun W X S ok hsc hp b xs h => (by cases h)
  | succ m ih =>
    intro W X S ok hsc hp b xs h n
    have h : mapO (cSt (cSs c m) c S) b = some xs := h
    induction b generalizing xs with
    | nil =>
      cases h
      exact ss_nil
    | cons st b ihb =>
      obtain ⟨y, ys, e1, e2, rfl⟩ := mapO_cons h
      exact ss_cons (st_step ih ok hsc hp e1 n) (ihb ys e2 e2)
end
end MP
set_option linter.all false
set_option maxRecDepth 100000
set_option maxHeartbeats 8000000
/-! A def keeps its small function. -/
namespace MP
open PySem PySem.Spec PyProof.Rows L2
/-- a small result that promises no less -/
def Le (M : Wd) (x y : Rs Va) : Prop := ∀ (E : XK) (r : List Addr) (h : Hv) (H : Hp) (Q : VK), Emb M r h H → Cn M E r H x (RV M) Q → Cn M E r H y (RV M) Q
/-- what is known of the module -/
structure Wok (gt : List (Str × GK)) (an : List Str) (T : Tb) (M : Wd) (O : Orc) (P : Program) (w : World) (K : PySem.W.Frag) (mg : Str → Option Value) (base : Heap) : Prop where
  fn : ∀ x f, gt.lookup x = some (.fn f) → mg x = some (.ref (M.fa f)) ∧ PySem.W.keepIn K (.ref (M.fa f)) = true
  cls : ∀ x c, gt.lookup x = some (.cls c) → mg x = some (.ref (M.ca c))
  made : ∀ c g, T.ini c = some g → KOk K M c g
  cst : ∀ x v, gt.lookup x = some (.cst v) → ∃ u y, mg x = some u ∧ RelV y u ∧ RV M [] v y
  sm : ∀ x c m f, gt.lookup x = some (.sm c m f) → SmOk K M c m f
  bi : ∀ x, biN.contains x = true → gt.lookup x = none → mg x = none
  an : ∀ x n, ixS x an 0 = some n → M.an n = x
  tok : TOk T M K
  met : ∀ m c g, T.met c m = some g → MOk K M c m g
  prp : ∀ f c g, T.prp c f = some g → PrOk K M c f g
  stp : ∀ f c g, T.stp c f = some g → PsOk K M c f g
  xk : ∀ X : Cx, X.prog = P → X.w = w → X.K = K → X.mg = mg → X.base = base → ∀ c k tf tag pf, T.exc c = some (tf, tag, pf) → T.exk c = some k → XKey X M c tf tag pf (M.an k)
  why : ∀ x, gt.lookup x = some .why → WhyOk T M P w K mg base x
  lenM : M.an T.lenM = "__len__"
  xc : ∀ X : Cx, X.prog = P → X.w = w → X.K = K → X.mg = mg → X.base = base → ∀ c tf tag pf, T.exc c = some (tf, tag, pf) → XOk X M c tf tag pf
def Tb.at (T : Tb) (k : Nat) : Tb := { T with cur := k }
/-- a def's frame at its entry -/
def frame0 (slots : Nat) (vs : List Va) : Fr := vs.map some ++ List.replicate (slots - vs.length) none
def endOf (r : RS) : Rs Va := match r with
  | .nx _ h1 => .ok .non h1
  | .rt v h1 => .ok v h1
  | .ex c f _ h1 => .ex c f h1
  | _ => .no
/-- a def's body run -/
def runB (T : Tb) (O : Orc) (f n slots : Nat) (b : List St) (vs : List Va) (h : Hv) : Rs Va := endOf (evB (evs (T.at (T.lv f)) O n).s b (frame0 slots vs) h)
section
variable {gt : List (Str × GK)} {an : List Str} {T : Tb} {M : Wd} {O : Orc} {P : Program} {w : World} {K : PySem.W.Frag} {mg : Str → Option Value} {base : Heap}
theorem tok_at {k : Nat} (t : TOk T M K) : TOk (T.at k) M K := ⟨t.exc, t.xfl, t.kit, t.cls, t.kitC, t.fld⟩
theorem DOk.at {k f : Nat} (D : DOk P w K mg base T M O f) : DOk P w K mg base (T.at k) M O f := ⟨D.ex, D.kp⟩
theorem xfv_at {k c f : Nat} {fs : List (Nat × Va)} {h : Hv} : xfv (T.at k) c f fs h = xfv T c f fs h := rfl
theorem evFxR_at {k c tg : Nat} {fs : List (Nat × Va)} : ∀ (r : FxR) (h : Hv), evFxR (T.at k) c tg fs r h = evFxR T c tg fs r h
  | .fld _, _ => rfl
  | .non, _ => rfl
  | .ite t a b, h => by
    show ((xfv T c tg fs h).bind fun x h1 => (opCmp .eq x (.str t) h1).bind fun k2 h2 => match k2 with
      | true => evFxR (T.at k) c tg fs a h2
      | false => evFxR (T.at k) c tg fs b h2) = _
    simp only [evFxR_at a, evFxR_at b]
    rfl
theorem evFxI_at {k c tg : Nat} {fs : List (Nat × Va)} {el : FxR} : ∀ (l : List (List (List Nat) × FxR)) (h : Hv), evFxI (T.at k) c tg fs el l h = evFxI T c tg fs el l h
  | [], h => evFxR_at el h
  | p :: l, h => by
    show ((xfv T c tg fs h).bind fun x h1 => gd (Nat.ble p.1.length Bnd) ((opCmp .isin x (.ref h1.n) (h1.new (.tup (p.1.map Va.str)))).bind fun k2 h2 => match k2 with
      | true => evFxR (T.at k) c tg fs p.2 h2
      | false => evFxI (T.at k) c tg fs el l h2)) = _
    simp only [evFxR_at, evFxI_at l]
    rfl
theorem whyX_at {k c : Nat} {fs : List (Nat × Va)} {h : Hv} : whyX (T.at k) c fs h = whyX T c fs h := by
  show (match T.cat c with
    | some true => (match T.wfx with
      | some p => (xfv T c p.tg fs h).bind fun t h1 => (evFxI (T.at k) c p.tg fs p.el p.is h1).bind fun v h2 => newOb (.tup [t, v]) h2
      | none => .no)
    | _ => .no) = _
  simp only [evFxI_at]
  rfl
theorem TWhy_at {k : Nat} : TWhy M (T.at k) = TWhy M T := by
  funext tl H Q
  have e : wWhy M (T.at k) Q = wWhy M T Q := by
    funext cls d H'
    unfold wWhy
    simp only [whyX_at]
  show tl (wWhy M (T.at k) Q) H _ = tl (wWhy M T Q) H _
  rw [e]
theorem WhyOk.at {k : Nat} {x : Str} (W : WhyOk T M P w K mg base x) : WhyOk (T.at k) M P w K mg base x := ⟨by
  rw [TWhy_at]
  exact W.ex⟩
theorem csok_of {lam : Bool} (wk : Wok gt an T M O P w K mg base) {N ps : List Str} {qual : Str} {scope : Scope} {lv : Nat} {cdv : Value} {A : Around} {outer : List Env} {s : Shared} {H : Hp} {E : XK} {fa : Addr} (S : FnScope N ps scope) (hr : Room (lv - 1) (A.deeper (envOfC qual scope s.heap.objs.size fa cdv)))
    (below : ∀ g, T.lv g < lv → DOk P w K mg base T M O g) (hlam : lam = true → LamOk (T.at (lv)) M (cxOf (L2.CX P w) P w K mg base N qual scope fa cdv A outer s H E)) : CSok (T.at (lv)) M O ⟨N, scope, gt, an, lam⟩ (cxOf (L2.CX P w) P w K mg base N qual scope fa cdv A outer s H E) (fun c d _ H' => E c d H') where
  N := rfl
  nd := S.nd
  scl := fun _ h => h
  scc := fun _ h => h
  scf := fun _ h => .inr h
  scg := fun _ h => h
  kd := S.kind
  un := by
    have := hr.un
    show (A.deeper (envOfC qual scope s.heap.objs.size fa cdv)).units + 65 < cLine
    omega
  calm := rfl
  tk := takes_of rfl rfl rfl rfl
  room := hr
  gl := fun x g h => by
    cases g with
    | fn f =>
      obtain ⟨k1, k2⟩ := wk.fn x f h
      exact ⟨k1, k2, fun l => (below f l).at⟩
    | cls c => exact ⟨wk.cls x c h, fun g hg => ⟨wk.made c g hg, fun l => (below g l).at⟩⟩
    | cst v => exact wk.cst x v h
    | sm c m f => exact ⟨wk.sm x c m f h, fun l => (below f l).at⟩
    | why => exact (wk.why x h).at
  bi := wk.bi
  an := wk.an
  tok := tok_at wk.tok
  met := fun m c g h => ⟨wk.met m c g h, fun l => (below g l).at⟩
  prp := fun f c g h => ⟨wk.prp f c g h, fun l => (below g l).at⟩
  stp := fun f c g h => ⟨wk.stp f c g h, fun l => (below g l).at⟩
  lenM := wk.lenM
  lam := hlam
  xc := wk.xc _ rfl rfl rfl rfl rfl
  xk := wk.xk _ rfl rfl rfl rfl rfl
  fn := fun _ _ => .inl rfl
theorem start_ok {r : List Addr} {us : List Va} {vs : List V} {N : List Str} (z : RVs M r us vs) (hl : vs.length ≤ N.length) : RF M r (frame0 N.length us) (L2.start N vs) := by
  unfold frame0 L2.start
  have e := z.length
  refine ⟨by simp [e], fun i v hv => ?_⟩
  by_cases c : i < us.length
  · rw [List.getElem?_append_left (by simpa using c), List.getElem?_map] at hv
    cases hu : us[i]? with
    | none =>
      rw [hu] at hv
      cases hv
    | some u =>
      rw [hu] at hv
      cases hv
      obtain ⟨x, ex, zx⟩ := pGet z hu
      refine ⟨x, ?_, zx⟩
      rw [List.getElem?_append_left (by rw [List.length_map, ← e]; exact c), List.getElem?_map, ex]
      rfl
  · rw [List.getElem?_append_right (by simpa using c), List.getElem?_replicate] at hv
    split at hv <;> cases hv
/-- THE RULE: a def keeps its small function -/
theorem fnok_of {O' : Orc} (wk : Wok gt an T M O P w K mg base) {f : Nat} {x qual : Str} {params : Arguments} {body : List Stmt} {scope : Scope} {dvs : List V} {kws : List (Str × V)} {fd : FuncData} {N ps : List Str} {c m n : Nat} {xs : List St}
    (F : FunD K x qual params body scope dvs kws (M.fa f) fd) (SC : FnScope N ps scope) (har : ps.length = T.ar f) (hlv : 0 < T.lv f) (hc : cSs c m ⟨N, scope, gt, an, false⟩ body = some xs) (below : ∀ g, T.lv g < T.lv f → DOk P w K mg base T M O g)
    (hO : ∀ us h, us.length = T.ar f → Le M (O' f us h) (runB T O f n N.length xs us h)) : FnOk P w K mg base (L2.CX P w) (T.lv f) (M.fa f) fd ps (spO M (T.ar f) (O' f)) := by
    have lv : T.lv f = (T.lv f - 1) + 1 := by omega
    rw [lv]
    refine F.ok SC (fun vs H Q E h => by rw [har]; exact h.1) fun cdv A outer s H vs Q E hr h => ?_
    have ok := csok_of (lam := false) wk (lv := T.lv f) (E := E) (H := H) (outer := outer) SC hr below (fun h => by cases h)
    refine ⟨_, soundS c m _ _ _ ok rfl (passes_of rfl) body xs hc n, ?_⟩
    obtain ⟨hl, r, us, hv, he, z, q⟩ := h
    have hpl : ps.length ≤ N.length := by
      have := congrArg List.length SC.pre
      rw [List.length_take] at this
      omega
    refine ⟨r, frame0 N.length us, hv, start_ok z (by rw [hl, ← har]; exact hpl), he, ?_⟩
    have q := hO us hv (by rw [z.length]; exact hl) E r hv H Q he q
    unfold runB at q
    show Cs M (fun c d _ H' => E c d H') { nx := fun _ H' => Q .non H', rt := Q } r H (evB (evs (T.at (T.lv f)) O n).s xs (frame0 N.length us) hv)
    revert q
    cases evB (evs (T.at (T.lv f)) O n).s xs (frame0 N.length us) hv with
    | nx s' h' => exact fun q r' σ' H' g zz => Cn.okG (R := RV M) (v := Va.non) (y := V.non) q g (show RV M r' .non V.non from rfl)
    | rt v h' => exact fun q r' y H' g zz => Cn.okG (v := v) q g zz
    | bk s' h' => exact fun q => q.elim
    | ct s' h' => exact fun q => q.elim
    | ex c fs s' h' => exact fun q r' σ' H' d ys g zz zf e => q r' H' d ys g zf e
    | no => exact fun q => q.elim
theorem dok_of {O' : Orc} (wk : Wok gt an T M O P w K mg base) {f : Nat} {x qual : Str} {params : Arguments} {body : List Stmt} {scope : Scope} {dvs : List V} {kws : List (Str × V)} {fd : FuncData} {N ps : List Str} {c m n : Nat} {xs : List St}
    (F : FunD K x qual params body scope dvs kws (M.fa f) fd) (SC : FnScope N ps scope) (har : ps.length = T.ar f) (hlv : 0 < T.lv f) (hc : cSs c m ⟨N, scope, gt, an, false⟩ body = some xs) (below : ∀ g, T.lv g < T.lv f → DOk P w K mg base T M O g)
    (hO : ∀ us h, us.length = T.ar f → Le M (O' f us h) (runB T O f n N.length xs us h)) (hd : ∀ j, j ≤ (T.dfl f).length - (T.ar f - T.pos f) → Dfs M K fd ps ((T.dfl f).drop j)) (hkw : ∀ n ks ds, (n, ks, ds) ∈ T.kwo f → KwD M K fd ps n ks ds) : DOk P w K mg base T M O' f where
  ex := ⟨fd, ps, fnok_of wk F SC har hlv hc below hO, hd, hkw⟩
  kp := F.kp
theorem Le.refl (x : Rs Va) : Le M x x := fun _ _ _ _ _ _ q => q
theorem Le.no (x : Rs Va) : Le M .no x := fun _ _ _ _ _ _ q => q.elim
theorem Le.of {x y : Rs Va} (e : x = y) : Le M x y := e ▸ Le.refl x
end
end MP
set_option linter.all false
set_option maxRecDepth 100000
set_option maxHeartbeats 8000000
/-! The head's facts, and what the engine wants of them. -/
namespace MP
open PySem PySem.Spec PyProof.Rows L2 NdefX
/-! ### attributes' names by numbers -/
def anOf (l : List Str) (n : Nat) : Str := match l[n]? with
  | some x => x
  | none => ⟨(List.replicate (n + 1) 0).toArray⟩
def anGood (l : List Str) : Bool := decide l.Nodup && l.all fun x => x.cps.toList.any fun c => !Nat.beq c 0
theorem any0 (n : Nat) : ((List.replicate n 0).any fun c => !Nat.beq c 0) = false := by
  induction n with
  | zero => rfl
  | succ n ih =>
    rw [List.replicate_succ, List.any_cons, ih]
    rfl
theorem anOf_inj {l : List Str} (h : anGood l = true) : ∀ i j, anOf l i = anOf l j → i = j := fun i j e => by
  unfold anGood at h
  rw [Bool.and_eq_true] at h
  have nd := of_decide_eq_true h.1
  have some_none : ∀ {i n : Nat} {x : Str}, l[i]? = some x → x = (⟨(List.replicate (n + 1) 0).toArray⟩ : Str) → False := fun {i n x} hi e => by
    have q := List.all_eq_true.mp h.2 x (List.mem_of_getElem? hi)
    rw [e] at q
    have q : ((List.replicate (n + 1) 0).toArray.toList.any fun c => !Nat.beq c 0) = true := q
    rw [show (List.replicate (n + 1) 0).toArray.toList = List.replicate (n + 1) 0 by simp, any0] at q
    cases q
  unfold anOf at e
  cases hi : l[i]? with
  | some x =>
    cases hj : l[j]? with
    | some y =>
      rw [hi, hj] at e
      have e : x = y := e
      subst e
      obtain ⟨li, ei⟩ := List.getElem?_eq_some_iff.mp hi
      obtain ⟨lj, ej⟩ := List.getElem?_eq_some_iff.mp hj
      have q := List.pairwise_iff_getElem.mp nd
      rcases Nat.lt_trichotomy i j with k | k | k
      · exact absurd (ei.trans ej.symm) (q i j li lj k)
      · exact k
      · exact absurd (ej.trans ei.symm) (q j i lj li k)
    | none =>
      rw [hi, hj] at e
      exact (some_none hi e).elim
  | none =>
    cases hj : l[j]? with
    | some y =>
      rw [hi, hj] at e
      exact (some_none hj e.symm).elim
    | none =>
      rw [hi, hj] at e
      have e : (⟨(List.replicate (i + 1) 0).toArray⟩ : Str) = ⟨(List.replicate (j + 1) 0).toArray⟩ := e
      have e2 := congrArg (fun s : Str => s.cps.toList.length) e
      simpa using e2
theorem anOf_ix {l : List Str} {x : Str} {n : Nat} (h : ixS x l 0 = some n) : anOf l n = x := by
  obtain ⟨k, rfl, e⟩ := ixS_ok h
  unfold anOf
  rw [Nat.zero_add, e]
/-! ### where defs stand -/
inductive Pth where
  | glo (x : Str) | meth (C m : Str) | stat (C m : Str) | pget (C m : Str) | pset (C m : Str)
def hd0 : Option (List Value) → Addr
  | some (.ref f :: _) => f
  | _ => 0
def hd1 : Option (List Value) → Addr
  | some (_ :: .ref f :: _) => f
  | _ => 0
def Pth.ad (K : PySem.W.Frag) : Pth → Addr
  | .glo x => He.ga K x
  | .meth C m => He.ma K (He.ga K C) m
  | .stat C m => hd0 (PySem.W.recIn K (He.ma K (He.ga K C) m) "staticmethod")
  | .pget C m => hd0 (PySem.W.recIn K (He.ma K (He.ga K C) m) "property")
  | .pset C m => hd1 (PySem.W.recIn K (He.ma K (He.ga K C) m) "property")
structure DF where
  at_ : Pth
  name : Str
  qual : Str
  params : Arguments
  body : List Stmt
  scope : Scope
  dfl : List He.Dv := []
  kwd : List (Str × He.Dv) := []
def fnV (K : PySem.W.Frag) (a : Addr) : He.FnW := match K.lookup a with
  | some ⟨_, _, .func fd, _⟩ => some (fd.name, fd.qualname, fd.params, fd.body, fd.scope, fd.globals, fd.closure, fd.builtins)
  | _ => none
def DF.val (d : DF) : He.FnW := some (d.name, d.qual, d.params, .stmts d.body, d.scope, mainGlobals, [], builtinsNs)
def DF.dvs (K : PySem.W.Frag) (d : DF) : List V := d.dfl.map (He.Dv.v K)
def DF.kws (K : PySem.W.Frag) (d : DF) : List (Str × V) := d.kwd.map fun q => (q.1, q.2.v K)
def DF.ok (K : PySem.W.Frag) (d : DF) : Bool := PySem.W.keepIn K (.ref (d.at_.ad K)) && (match K.lookup (d.at_.ad K) with
  | some ⟨_, _, .func fd, _⟩ => PySem.W.codeIn K fd.code d.qual && (He.dflB K fd.defaults (d.dvs K) && He.kwdB K fd.kwdefaults (d.kws K))
  | _ => false)
theorem DF.funD {K : PySem.W.Frag} {d : DF} (e : fnV K (d.at_.ad K) = d.val) (c : d.ok K = true) : ∃ fd, FunD K d.name d.qual d.params d.body d.scope (d.dvs K) (d.kws K) (d.at_.ad K) fd := by
  obtain ⟨kp, c2⟩ := He.ba c
  unfold fnV at e
  cases q : K.lookup (d.at_.ad K) with
  | none =>
    rw [q] at c2
    cases c2
  | some o =>
    obtain ⟨oc, od, dt, osl⟩ := o
    rw [q] at c2 e
    cases dt with
    | func fd =>
      obtain ⟨n1, n2, n3, n4, n5, n6, n7, n8, n9, n10, n11, n12, n13, n14, n15⟩ := fd
      have e2 : (some (n1, n2, n3, n4, n5, n6, n7, n15) : He.FnW) = some (d.name, d.qual, d.params, .stmts d.body, d.scope, mainGlobals, [], builtinsNs) := e
      simp only [Option.some.injEq, Prod.mk.injEq] at e2
      obtain ⟨h1, h2, h3, h4, h5, h6, h7, h8⟩ := e2
      subst h1 h2 h3 h4 h5 h6 h7 h8
      have c3 : (PySem.W.codeIn K n13 d.qual && (He.dflB K n8 (d.dvs K) && He.kwdB K n9 (d.kws K))) = true := c2
      obtain ⟨k1, k2⟩ := He.ba c3
      obtain ⟨k3, k4⟩ := He.ba k2
      exact ⟨_, ⟨oc, od, n8, n9, n10, n11, n12, n13, n14, osl, rfl, q, k1, He.dflB_ok k3, He.kwdB_ok k4⟩, kp⟩
    | _ => cases c2
/-! ### own exceptions -/
inductive XB where
  | v | l | i
def XB.b : XB → String
  | .v => "ValueError"
  | .l => "LookupError"
  | .i => "IndexError"
def XB.new : XB → String
  | .v => "ValueError.__new__"
  | .l => "LookupError.__new__"
  | .i => "IndexError.__new__"
def XB.ini : XB → String
  | .v => "ValueError.__init__"
  | .l => "LookupError.__init__"
  | .i => "IndexError.__init__"
def XB.bm : XB → List Value
  | .v => [.type "ValueError", .type "Exception", .type "BaseException", .type "object"]
  | .l => [.type "LookupError", .type "Exception", .type "BaseException", .type "object"]
  | .i => [.type "IndexError", .type "LookupError", .type "Exception", .type "BaseException", .type "object"]
theorem XB.fb (b : XB) : ExcBaseFacts b.b b.new b.ini b.bm := by
  cases b
  · exact F.excBase_ValueError
  · exact F.excBase_LookupError
  · exact F.excBase_IndexError
theorem XB.kf (b : XB) : PySem.W.KxsFacts b.b b.ini := by
  cases b
  · exact PySem.W.kxs_ValueError
  · exact PySem.W.kxs_LookupError
  · exact PySem.W.kxs_IndexError
theorem XB.sf (b : XB) : StoreFacts b.b b.bm "object.__setattr__" "object" := by
  cases b
  · exact F.store_ValueError
  · exact F.store_LookupError
  · exact F.store_IndexError
structure XD where
  cls : Str
  qual : Str
  params : Arguments
  body : List Stmt
  scope : Scope
  kd : XB
def XD.C (K : PySem.W.Frag) (d : XD) : Addr := He.ga K d.cls
def XD.f (K : PySem.W.Frag) (d : XD) : Addr := He.ma K (d.C K) "__init__"
abbrev FnX : Type := Option (Str × Str × Arguments × FuncBody × Scope × Addr × List Str × Addr)
def xfV (K : PySem.W.Frag) (a : Addr) : FnX := match K.lookup a with
  | some ⟨_, _, .func fd, _⟩ => some (fd.name, fd.qualname, fd.params, fd.body, fd.scope, fd.globals, fd.closure.map (·.1), fd.builtins)
  | _ => none
def XD.val (d : XD) : FnX := some ("__init__", d.qual, d.params, .stmts d.body, d.scope, mainGlobals, ["__class__"], builtinsNs)
def isNoV : Value → Bool
  | .none => true
  | _ => false
def eqOO (a b : Option (Option Value)) : Bool := decide (a = b)
def xfB (P : Program) (K : PySem.W.Frag) (C : Addr) (q : Str) (fd : FuncData) : Bool := isNoV fd.defaults && (isNoV fd.kwdefaults && (fd.annotations.isNone && (PySem.W.codeIn K fd.code q && ((match fd.code with
  | .ref c => (match K.lookup c with
    | some ⟨_, _, .fields vs, _⟩ => (match vs.toList with
      | _ :: _ :: .str file _ :: _ => (P.main.file : Str) == file
      | _ => false)
    | _ => false)
  | _ => false) && (match fd.closure with
    | [(_, cc)] => (match K.lookup cc with
      | some ⟨_, _, .cell (some (.ref C')), _⟩ => C' == C
      | _ => false)
    | _ => false)))))
def XD.ok (P : Program) (K : PySem.W.Frag) (d : XD) : Bool :=
  PySem.W.excInitIn K (d.C K) d.kd.bm d.kd.new && (PySem.W.excOver K (d.C K) d.kd.bm && (PySem.W.hasDictIn K (d.C K) && (eqOO (PySem.W.findIn K (.ref (d.C K)) "__setattr__") (some (some (.builtin "object.__setattr__"))) &&
  (decide (PySem.W.subIn K (.ref (d.C K)) (.type "BaseException") = some true) && (decide (PySem.W.subIn K (.ref (d.C K)) (.type d.kd.b) = some true) && (decide (PySem.W.subIn K (.ref (d.C K)) (.ref (d.C K)) = some true) &&
  (decide (PySem.W.typeIn K (.ref (d.C K)) = some (.type "type")) && (PySem.W.keepIn K (.ref (d.C K)) && (eqOO (PySem.W.nsIn K cStatics "thirdparty.any") (some none) && (eqOO (PySem.W.ks_superIn K (d.C K) (d.C K) "__init__") (some (some (.builtin d.kd.ini))) &&
  (eqOO (PySem.W.findIn K (.ref (d.C K)) "__init__") (some (some (.ref (d.f K)))) && (decide (PySem.W.typeIn K (.ref (d.f K)) = some (.type "function")) && (match K.lookup (d.f K) with
    | some ⟨_, _, .func fd, _⟩ => xfB P K (d.C K) d.qual fd
    | _ => false)))))))))))))
theorem XD.xcC {P : Program} {K : PySem.W.Frag} {d : XD} (h : d.ok P K = true) : XcC K (d.C K) d.kd.b d.kd.new d.kd.ini d.kd.bm ∧ PySem.W.findIn K (.ref (d.C K)) "__init__" = some (some (.ref (d.f K))) ∧ PySem.W.typeIn K (.ref (d.f K)) = some (.type "function") ∧
    ∃ oc od sl fd, K.lookup (d.f K) = some ⟨oc, od, .func fd, sl⟩ ∧ xfB P K (d.C K) d.qual fd = true := by
  unfold XD.ok at h
  simp only [Bool.and_eq_true] at h
  obtain ⟨h1, h2, h3, h4, h5, h6, h7, h8, h9, h10, h11, h12, h13, h14⟩ := h
  refine ⟨⟨d.kd.fb, d.kd.kf, d.kd.sf, h1, h2, h3, of_decide_eq_true h4, of_decide_eq_true h5, of_decide_eq_true h6, of_decide_eq_true h7, of_decide_eq_true h8, h9, of_decide_eq_true h10, of_decide_eq_true h11⟩, of_decide_eq_true h12, of_decide_eq_true h13, ?_⟩
  cases q : K.lookup (d.f K) with
  | none =>
    rw [q] at h14
    cases h14
  | some o =>
    obtain ⟨oc, od, dt, sl⟩ := o
    rw [q] at h14
    cases dt with
    | func fd => exact ⟨oc, od, sl, fd, rfl, h14⟩
    | _ => cases h14
/-- what the function object is -/
theorem XD.xiK {P : Program} {K : PySem.W.Frag} {mg : Str → Option Value} {d : XD} (h : d.ok P K = true) (e : xfV K (d.f K) = d.val) (ht : (P.main.scope.names.lookup ("super" : Str)).isSome = false) (hm : mg "super" = none) (hs : d.scope.names.lookup ("super" : Str) = some .globalImplicit) :
    ∃ c cc fd doc pm ctv, XiK P K mg (d.C K) (d.f K) ⟨"__init__", d.qual, d.params, d.body, d.scope, [("__class__", cc)], c⟩ cc fd ∧ fd = (⟨"__init__", d.qual, d.params, d.body, d.scope, [("__class__", cc)], c⟩ : NF).fd doc pm ctv := by
  obtain ⟨_, _, _, oc, od, sl, fd, q, hx⟩ := XD.xcC h
  unfold xfV at e
  rw [q] at e
  obtain ⟨n1, n2, n3, n4, n5, n6, n7, n8, n9, n10, n11, n12, n13, n14, n15⟩ := fd
  have e2 : (some (n1, n2, n3, n4, n5, n6, n7.map (·.1), n15) : FnX) = some (("__init__" : Str), d.qual, d.params, .stmts d.body, d.scope, mainGlobals, [("__class__" : Str)], builtinsNs) := e
  simp only [Option.some.injEq, Prod.mk.injEq] at e2
  obtain ⟨h1, h2, h3, h4, h5, h6, h7, h8⟩ := e2
  subst h1 h2 h3 h4 h5 h6 h8
  unfold xfB at hx
  simp only [Bool.and_eq_true] at hx
  obtain ⟨k1, k2, k3, k4, k5, k6⟩ := hx
  cases n8 with
  | none =>
    cases n9 with
    | none =>
      cases n12 with
      | none =>
        cases n13 with
        | ref c =>
          split at k6
          · rename_i x0 cc
            have hx0 : x0 = ("__class__" : Str) := by
              have h7 : [x0] = [("__class__" : Str)] := h7
              exact List.head_eq_of_cons_eq h7
            subst hx0
            refine ⟨c, cc, _, n10, n11, n14, ⟨⟨oc, od, sl, q⟩, ⟨n10, n11, n14, rfl⟩, k4, ?_, ht, hm, rfl, ?_, hs⟩, rfl⟩
            · cases qc : K.lookup c with
              | none =>
                dsimp only at k5
                rw [qc] at k5
                cases k5
              | some ob =>
                obtain ⟨oc2, od2, dt2, sl2⟩ := ob
                dsimp only at k5
                rw [qc] at k5
                cases dt2 with
                | fields vs =>
                  dsimp only at k5
                  split at k5
                  · rename_i a0 a1 file tf rest hv
                    refine ⟨_, vs, file, tf, rfl, rfl, ?_, k5⟩
                    rw [← Array.getElem?_toList, hv]
                    rfl
                  · cases k5
                | _ => cases k5
            · split at k6
              · rename_i oc3 od3 C' sl3 hcc
                have : C' = d.C K := eq_of_beq k6
                subst this
                exact ⟨_, hcc, rfl⟩
              · cases k6
          · cases k6
        | _ => cases k5
      | some _ => cases k3
    | _ => cases k2
  | _ => cases k1
end MP
set_option linter.all false
set_option maxRecDepth 100000
set_option maxHeartbeats 8000000
/-! Own exceptions' classes by the head's facts. -/
namespace MP
open PySem PySem.Spec PyProof.Rows L2 NdefX
def xPar (a : Arguments) : List Str := (a.posonlyargs ++ a.args).map (·.arg)
def xGd (d : XD) (s0 i0 : Str) (p2 pos : Pos) (sn : Str) (ps : List Str) : Bool := decide (s0 = "super") && (decide (i0 = "__init__") && ((p2.endLine == pos.line) && (decide ((d.params.posonlyargs ++ d.params.args).head?.map (·.arg) = some sn) && (okName sn && (nscB (ps ++ [("__class__" : Str)]) ps [("__class__" : Str)] d.scope && (decide (d.scope.names.lookup ("super" : Str) = some .globalImplicit) && decide (xPar d.params = ps)))))))
/-- tag's field, tag, (the parameter, its field) -/
def xKind (d : XD) : Option (Str × Str × Option (Str × Str)) := match d.body with
  | [.Expr (.Call (.Attribute (.Call (.Name s0 p0) [] [] p1) i0 p2) [.Constant (.str txt) j0 p3] [] pos) pos0, .Assign [.Attribute (.Name sn p4) tn p5] (.Constant (.str tv) j1 p6) pos1] => guardO (xGd d s0 i0 p2 pos sn [sn]) (some (tn, tv, none))
  | [.Expr (.Call (.Attribute (.Call (.Name s0 p0) [] [] p1) i0 p2) [.JoinedStr [.Constant (.str pre) j0 p3, .FormattedValue (.Name x p4) (-1) none p5] p6] [] pos) pos0, .Assign [.Attribute (.Name sn p7) tn p8] (.Constant (.str tv) j1 p9) pos1, .Assign [.Attribute (.Name s2 q1) fn q2] (.Name x2 q3) pos2] =>
    guardO (xGd d s0 i0 p2 pos sn [sn, x] && (okName x && (decide (s2 = sn) && (decide (x2 = x) && Nat.ble pre.length 1000)))) (some (tn, tv, some (x, fn)))
  | _ => none
theorem xGd_ok {d : XD} {s0 i0 : Str} {p2 pos : Pos} {sn : Str} {ps : List Str} (h : xGd d s0 i0 p2 pos sn ps = true) : s0 = "super" ∧ i0 = "__init__" ∧ (p2.endLine == pos.line) = true ∧ (∃ ar, (d.params.posonlyargs ++ d.params.args).head? = some ar ∧ ar.arg = sn) ∧
    (sn == ("__debug__" : Str)) = false ∧ (sn == ("__classdict__" : Str)) = false ∧ NScope (ps ++ [("__class__" : Str)]) ps [("__class__" : Str)] d.scope ∧ d.scope.names.lookup ("super" : Str) = some .globalImplicit ∧ xPar d.params = ps := by
  unfold xGd at h
  simp only [Bool.and_eq_true] at h
  obtain ⟨h1, h2, h3, h4, h5, h6, h7, h8⟩ := h
  have h4 := of_decide_eq_true h4
  obtain ⟨n1, n2⟩ := okName_ok h5
  refine ⟨of_decide_eq_true h1, of_decide_eq_true h2, h3, ?_, n1, n2, nscope_by h6, of_decide_eq_true h7, of_decide_eq_true h8⟩
  cases q : (d.params.posonlyargs ++ d.params.args).head? with
  | none =>
    rw [q] at h4
    cases h4
  | some ar =>
    rw [q] at h4
    cases h4
    exact ⟨ar, rfl, rfl⟩
section
variable {P : Program} {w : World} {K : PySem.W.Frag} {mg : Str → Option Value} {base : Heap} {d : XD} {CX : CXT} {tn tv : Str} {pf : Option (Str × Str)}
/-- the __init__'s promise -/
theorem XD.fnok (h : d.ok P K = true) (e : xfV K (d.f K) = d.val) (ht : (P.main.scope.names.lookup ("super" : Str)).isSome = false) (hm : mg "super" = none) (hk : xKind d = some (tn, tv, pf)) (h1 : PySem.W.findIn K (.ref (d.C K)) tn = some none)
    (h2 : ∀ x fn, pf = some (x, fn) → PySem.W.findIn K (.ref (d.C K)) fn = some none) :
    ∃ c cc fd doc pm ctv, fd = (⟨"__init__", d.qual, d.params, d.body, d.scope, [("__class__", cc)], c⟩ : NF).fd doc pm ctv ∧ FnOk P w K mg base CX 1 (d.f K) fd (xPar d.params) (match pf with
    | none => spX0 (d.C K) tn tv
    | some q => spX1 K (d.C K) tn tv q.2) := by
  obtain ⟨T, iC, tI, _⟩ := XD.xcC h
  unfold xKind at hk
  split at hk
  · rename_i s0 p0 p1 i0 p2 txt j0 p3 pos pos0 sn p4 tn' p5 tv' j1 p6 pos1 hb
    obtain ⟨g, hk⟩ := guardO_some hk
    cases hk
    obtain ⟨e1, e2, e3, ⟨ar, a1, a2⟩, n1, n2, sc, sk, ps⟩ := xGd_ok g
    subst e1 e2
    obtain ⟨c, cc, fd, doc, pm, ctv, Z, ef⟩ := XD.xiK h e ht hm sk
    refine ⟨c, cc, fd, doc, pm, ctv, ef, ?_⟩
    rw [ps]
    exact xini0 (sn := sn) (ar := ar) T Z sc hb a1 a2 n2 n1 e3 h1
  · rename_i s0 p0 p1 i0 p2 pre j0 p3 x p4 p5 p6 pos pos0 sn p7 tn' p8 tv' j1 p9 pos1 s2 q1 fn q2 x2 q3 pos2 hb
    obtain ⟨g, hk⟩ := guardO_some hk
    cases hk
    rw [Bool.and_eq_true, Bool.and_eq_true, Bool.and_eq_true, Bool.and_eq_true] at g
    obtain ⟨g, g2, g3, g4, g5⟩ := g
    obtain ⟨e1, e2, e3, ⟨ar, a1, a2⟩, n1, n2, sc, sk, ps⟩ := xGd_ok g
    have g3 := of_decide_eq_true g3
    have g4 := of_decide_eq_true g4
    subst e1 e2 g3 g4
    obtain ⟨m1, m2⟩ := okName_ok g2
    obtain ⟨c, cc, fd, doc, pm, ctv, Z, ef⟩ := XD.xiK h e ht hm sk
    refine ⟨c, cc, fd, doc, pm, ctv, ef, ?_⟩
    rw [ps]
    exact xini1 (q4 := pos) (sn := s2) (x := x2) (ar := ar) T Z sc hb a1 a2 n2 n1 m2 m1 (Nat.le_of_ble_eq_true g5) e3 h1 (h2 x2 fn rfl)
  · cases hk
end
/-- the two ways to bind -/
structure XBind (d : XD) (kn : Option Str) : Prop where
  pos : ∀ (c cc : Addr) (doc pm ctv : Value) (us : List Value), us.length = (xPar d.params).length → bindArgs ((⟨"__init__", d.qual, d.params, d.body, d.scope, [("__class__", cc)], c⟩ : NF).fd doc pm ctv) ⟨us, []⟩ = pure ((xPar d.params).zip us)
  key : ∀ k, kn = some k → ∀ (c cc : Addr) (doc pm ctv x y : Value), bindArgs ((⟨"__init__", d.qual, d.params, d.body, d.scope, [("__class__", cc)], c⟩ : NF).fd doc pm ctv) ⟨[x], [(k, y)]⟩ = pure ((xPar d.params).zip [x, y])
section
variable {X : Cx} {M : Wd} {d : XD} {tn tv : Str} {pf : Option (Str × Str)} {c tf : Nat} {tag : List Nat} {pg : Option Nat} {kn : Option Str}
theorem XD.xok (h : d.ok X.prog X.K = true) (e : xfV X.K (d.f X.K) = d.val) (ht : (X.prog.main.scope.names.lookup ("super" : Str)).isSome = false) (hm : X.mg "super" = none) (hk : xKind d = some (tn, tv, pf)) (h1 : PySem.W.findIn X.K (.ref (d.C X.K)) tn = some none)
    (h2 : ∀ x fn, pf = some (x, fn) → PySem.W.findIn X.K (.ref (d.C X.K)) fn = some none) (hc : M.ca c = d.C X.K) (ha : M.an tf = tn) (hv : tag = tv.cps.toList) (hp : pg.map M.an = pf.map (·.2)) (B : XBind d kn) : XOk X M c tf tag pg := by
  obtain ⟨T, iC, tI, _⟩ := XD.xcC h
  obtain ⟨cd, cc, fd, doc, pm, ctv, ef, F1⟩ := XD.fnok (CX := L2.CX X.prog X.w) (w := X.w) (base := X.base) h e ht hm hk h1 h2
  subst ef hv
  refine ⟨_, _, _, _, d.f X.K, _, xPar d.params, by rw [hc]; exact T, by rw [hc]; exact iC, tI, .all (B.pos cd cc doc pm ctv), ?_⟩
  rw [hc, ha, show (⟨tv.cps.toList.toArray⟩ : Str) = tv by simp]
  cases pg with
  | none =>
    cases pf with
    | none => exact F1
    | some q => cases hp
  | some f =>
    cases pf with
    | none => cases hp
    | some q =>
      have hp : M.an f = q.2 := Option.some.inj hp
      show FnOk _ _ _ _ _ _ _ _ _ _ (spX1 X.K (d.C X.K) tn tv (M.an f))
      rw [hp]
      exact F1
theorem XD.xkey {k : Nat} (h : d.ok X.prog X.K = true) (e : xfV X.K (d.f X.K) = d.val) (ht : (X.prog.main.scope.names.lookup ("super" : Str)).isSome = false) (hm : X.mg "super" = none) (hk : xKind d = some (tn, tv, pf)) (h1 : PySem.W.findIn X.K (.ref (d.C X.K)) tn = some none)
    (h2 : ∀ x fn, pf = some (x, fn) → PySem.W.findIn X.K (.ref (d.C X.K)) fn = some none) (hc : M.ca c = d.C X.K) (ha : M.an tf = tn) (hv : tag = tv.cps.toList) (hp : pg.map M.an = pf.map (·.2)) (B : XBind d kn) (hkn : kn = some (M.an k)) : XKey X M c tf tag pg (M.an k) := by
  obtain ⟨T, iC, tI, _⟩ := XD.xcC h
  obtain ⟨cd, cc, fd, doc, pm, ctv, ef, F1⟩ := XD.fnok (CX := L2.CX X.prog X.w) (w := X.w) (base := X.base) h e ht hm hk h1 h2
  subst ef hv
  refine ⟨_, _, _, _, d.f X.K, _, xPar d.params, by rw [hc]; exact T, by rw [hc]; exact iC, tI, fun s x y _ => .of_eq (B.key _ hkn cd cc doc pm ctv x y), ?_⟩
  rw [hc, ha, show (⟨tv.cps.toList.toArray⟩ : Str) = tv by simp]
  cases pg with
  | none =>
    cases pf with
    | none => exact F1
    | some q => cases hp
  | some f =>
    cases pf with
    | none => cases hp
    | some q =>
      have hp : M.an f = q.2 := Option.some.inj hp
      show FnOk _ _ _ _ _ _ _ _ _ _ (spX1 X.K (d.C X.K) tn tv (M.an f))
      rw [hp]
      exact F1
end
end MP
set_option linter.all false
set_option maxRecDepth 100000
set_option maxHeartbeats 8000000
/-! The hook; a law's tables; what they say. -/
namespace MP
open PySem PySem.Spec PyProof.Rows L2 NdefX
/-! ### trees by numbers -/
inductive BT (α : Type) where
  | nil | nd (o : Option α) (l r : BT α)
section
variable {α : Type}
def BT.get : BT α → Nat → Option α
  | .nil, _ => none
  | .nd o l r, k => match k with
    | 0 => o
    | j + 1 => match Nat.beq (j % 2) 0 with
      | true => l.get (j / 2)
      | false => r.get (j / 2)
def optB (f : α → Bool) : Option α → Bool
  | none => true
  | some v => f v
def BT.all (f : Nat → α → Bool) : BT α → (Nat → Nat) → Bool
  | .nil, _ => true
  | .nd o l r, g => optB (f (g 0)) o && (l.all f (fun k => g (2 * k + 1)) && r.all f (fun k => g (2 * k + 2)))
theorem BT.all_ok {f : Nat → α → Bool} : ∀ {t : BT α} {g : Nat → Nat} {k : Nat} {v : α}, t.all f g = true → t.get k = some v → f (g k) v = true
  | .nil, _, _, _, _, e => by cases e
  | .nd o l r, g, 0, v, h, e => by
    have h : (optB (f (g 0)) o && (l.all f (fun k => g (2 * k + 1)) && r.all f (fun k => g (2 * k + 2)))) = true := h
    rw [Bool.and_eq_true] at h
    have e : o = some v := e
    subst e
    exact h.1
  | .nd o l r, g, j + 1, v, h, e => by
    have h : (optB (f (g 0)) o && (l.all f (fun k => g (2 * k + 1)) && r.all f (fun k => g (2 * k + 2)))) = true := h
    rw [Bool.and_eq_true, Bool.and_eq_true] at h
    have e : (match Nat.beq (j % 2) 0 with
      | true => l.get (j / 2)
      | false => r.get (j / 2)) = some v := e
    cases q : Nat.beq (j % 2) 0 with
    | true =>
      rw [q] at e
      have q0 : j % 2 = 0 := Nat.eq_of_beq_eq_true q
      have z := BT.all_ok h.2.1 e
      rw [show 2 * (j / 2) + 1 = j + 1 by omega] at z
      exact z
    | false =>
      rw [q] at e
      have q0 : j % 2 ≠ 0 := Nat.ne_of_beq_eq_false q
      have z := BT.all_ok h.2.2 e
      rw [show 2 * (j / 2) + 2 = j + 1 by omega] at z
      exact z
end
def get2 {α : Type} (t : BT (BT α)) (i j : Nat) : Option α := match t.get i with
  | some r => r.get j
  | none => none
def isY (o : Option Unit) : Bool := match o with
  | some _ => true
  | none => false
/-! ### the tables -/
def yi : TyV → Nat
  | .non => 0
  | .bl => 1
  | .int => 2
  | .str => 3
  | .lst => 4
  | .tup => 5
  | .dct => 6
  | .ins c => 7 + 2 * c
  | .exc c => 8 + 2 * c
def ci : TyC → Nat
  | .int => 0
  | .bool => 1
  | .str => 2
  | .list => 3
  | .tuple => 4
  | .verr => 5
  | .lerr => 6
  | .ierr => 7
  | .cls c => 8 + c
def yo (n : Nat) : TyV := match n with
  | 0 => .non
  | 1 => .bl
  | 2 => .int
  | 3 => .str
  | 4 => .lst
  | 5 => .tup
  | 6 => .dct
  | n + 7 => match Nat.beq (n % 2) 0 with
    | true => .ins (n / 2)
    | false => .exc (n / 2)
def co (n : Nat) : TyC := match n with
  | 0 => .int
  | 1 => .bool
  | 2 => .str
  | 3 => .list
  | 4 => .tuple
  | 5 => .verr
  | 6 => .lerr
  | 7 => .ierr
  | n + 8 => .cls n
theorem yo_yi (y : TyV) : yo (yi y) = y := by
  cases y with
  | ins c =>
    show yo (7 + 2 * c) = _
    rw [Nat.add_comm]
    show (match Nat.beq (2 * c % 2) 0 with
      | true => TyV.ins (2 * c / 2)
      | false => TyV.exc (2 * c / 2)) = _
    rw [show 2 * c % 2 = 0 by omega, show 2 * c / 2 = c by omega]
  | exc c =>
    show yo (8 + 2 * c) = _
    rw [show 8 + 2 * c = (2 * c + 1) + 7 by omega]
    show (match Nat.beq ((2 * c + 1) % 2) 0 with
      | true => TyV.ins ((2 * c + 1) / 2)
      | false => TyV.exc ((2 * c + 1) / 2)) = _
    rw [show (2 * c + 1) % 2 = 1 by omega, show (2 * c + 1) / 2 = c by omega]
  | _ => rfl
theorem co_ci (y : TyC) : co (ci y) = y := by
  cases y with
  | cls c =>
    show co (8 + c) = _
    rw [Nat.add_comm]
    rfl
  | _ => rfl
structure Fi where
  ar : Nat
  lv : Nat
  dfl : List Va
  slots : Nat
  body : List St
  /-- by place at the most; the calls with keywords -/
  np : Nat
  kw : List (Nat × List Nat × List Va)
structure LD where
  P : Program
  cn : BT Str
  fp : BT Pth
  an : List Str
  gts : List (List (Str × GK))
  fi : BT Fi
  fld : BT (BT Unit)
  prp : BT (BT Nat)
  stp : BT (BT Nat)
  met : BT (BT Nat)
  ini : BT Nat
  kit : BT (BT Bool)
  okC : BT Unit
  exc : BT (Nat × List Nat × Option Nat)
  exk : BT Nat
  xfl : BT (BT Unit)
  /-- an own exception's place in fx -/
  xat : BT Nat
  fn : List DF
  fx : List XD
  kns : List (Option Str)
  /-- what is caught, by three classes; what is read off it; len's method -/
  cat : BT Bool
  cc : Nat × Nat × Nat
  wfx : Option FxP
  lenM : Nat
  /-- defs that make lambdas -/
  lams : List DF
def fiAr (o : Option Fi) : Nat := match o with
  | some x => x.ar
  | none => 0
def fiLv (o : Option Fi) : Nat := match o with
  | some x => x.lv
  | none => 100000
def fiDf (o : Option Fi) : List Va := match o with
  | some x => x.dfl
  | none => []
def fiNp (o : Option Fi) : Nat := match o with
  | some x => x.np
  | none => 0
def fiKw (o : Option Fi) : List (Nat × List Nat × List Va) := match o with
  | some x => x.kw
  | none => []
def LD.T (D : LD) : Tb where
  fld := fun c f => isY (get2 D.fld c f)
  prp := fun c f => get2 D.prp c f
  stp := fun c f => get2 D.stp c f
  met := fun c f => get2 D.met c f
  ini := fun c => D.ini.get c
  kit := fun y c => get2 D.kit (yi y) (ci c)
  okC := fun c => isY (D.okC.get c)
  exc := fun c => D.exc.get c
  exk := fun c => D.exk.get c
  xfl := fun c f => isY (get2 D.xfl c f)
  ar := fun f => fiAr (D.fi.get f)
  dfl := fun f => fiDf (D.fi.get f)
  pos := fun f => fiNp (D.fi.get f)
  kwo := fun f => fiKw (D.fi.get f)
  lv := fun f => fiLv (D.fi.get f)
  cat := fun c => D.cat.get c
  wfx := D.wfx
  lenM := D.lenM
  cur := 0
def cnA (K : PySem.W.Frag) (o : Option Str) : Addr := match o with
  | some x => He.ga K x
  | none => 0
def fpA (K : PySem.W.Frag) (o : Option Pth) : Addr := match o with
  | some p => p.ad K
  | none => 0
def LD.M (D : LD) (hi : anGood D.an = true) (K : PySem.W.Frag) (t : Toks) : Wd where
  toToks := t
  fa := fun f => fpA K (D.fp.get f)
  ca := fun c => cnA K (D.cn.get c)
  an := anOf D.an
  inj := anOf_inj hi
/-! ### the checks -/
def gloB (K : PySem.W.Frag) (x : Str) : Bool := He.eqO (PySem.W.nsIn K mainGlobals x) (some (some (.ref (He.ga K x))))
def cstB (K : PySem.W.Frag) (x : Str) (v : Va) : Bool := match v with
  | .int i => (He.Fa.int x i).ok K
  | .str z => (He.Fa.str x ⟨z.toArray⟩).ok K
  | _ => false
def hdIs (o : Option (List Value)) (g : Addr) : Bool := match o with
  | some (.ref f :: _) => decide (f = g)
  | _ => false
theorem hdIs_ok {o : Option (List Value)} {g : Addr} (h : hdIs o g = true) : ∃ rest, o = some (.ref g :: rest) := by
  unfold hdIs at h
  split at h
  · rename_i f r
    rw [of_decide_eq_true h]
    exact ⟨r, rfl⟩
  · cases h
def smB (K : PySem.W.Frag) (C : Addr) (m : Str) (g : Addr) : Bool := (match PySem.W.findCls K (.ref C) (.type "type") m with
    | some (.get (.builtin d) (.ref p) .none (.ref D)) => decide (d = "staticmethod.__get__") && (decide (D = C) && hdIs (PySem.W.recIn K p "staticmethod") g)
    | _ => false) && (PySem.W.readsIn K C (.type "type") && (He.eqO (PySem.W.specialIn K (.ref C) "__getattribute__") (some (some (.builtin "type.__getattribute__"))) && PySem.W.keepIn K (.ref g)))
theorem smB_ok {K : PySem.W.Frag} {M : Wd} {c g : Nat} {m : Str} (h : smB K (M.ca c) m (M.fa g) = true) : SmOk K M c m g := by
  unfold smB at h
  simp only [Bool.and_eq_true] at h
  obtain ⟨h1, h2, h3, h4⟩ := h
  refine ⟨?_, He.eqO_ok h3, h4⟩
  split at h1
  · rename_i d p D e
    simp only [Bool.and_eq_true] at h1
    obtain ⟨k1, k2, k3⟩ := h1
    obtain ⟨rest, k3⟩ := hdIs_ok k3
    rw [of_decide_eq_true k1, of_decide_eq_true k2] at e
    exact ⟨_, p, rest, h2, e, k3⟩
  · cases h1
def prB (K : PySem.W.Frag) (C : Addr) (f : Str) (g : Addr) : Bool := match PySem.W.findIn K (.ref C) f with
  | some (some (.ref p)) => He.eqO (PySem.W.specialIn K (.ref p) "__get__") (some (some (.builtin "property.__get__"))) && (decide (PySem.W.takesIn K (.ref p) = some true) && hdIs (PySem.W.recIn K p "property") g)
  | _ => false
theorem prB_ok {K : PySem.W.Frag} {C g : Addr} {f : Str} (h : prB K C f g = true) : ∃ p, PropOf K C f p g := by
  unfold prB at h
  split at h
  · rename_i p e
    simp only [Bool.and_eq_true] at h
    exact ⟨p, e, He.eqO_ok h.1, of_decide_eq_true h.2.1, hdIs_ok h.2.2⟩
  · cases h
def hd1Is (o : Option (List Value)) (g : Addr) : Bool := match o with
  | some (_ :: .ref f :: _) => decide (f = g)
  | _ => false
theorem hd1Is_ok {o : Option (List Value)} {g : Addr} (h : hd1Is o g = true) : ∃ d rest, o = some (d :: .ref g :: rest) := by
  unfold hd1Is at h
  split at h
  · rename_i d f r
    rw [of_decide_eq_true h]
    exact ⟨d, r, rfl⟩
  · cases h
def psB (K : PySem.W.Frag) (C : Addr) (f : Str) (g : Addr) : Bool := match PySem.W.takerIn K C f with
  | some (some (.ref p)) => decide (PySem.W.typeIn K (.ref p) = some (.type "property")) && hd1Is (PySem.W.recIn K p "property") g
  | _ => false
theorem psB_ok {K : PySem.W.Frag} {M : Wd} {c f g : Nat} (hc : Cls K (M.ca c)) (h : psB K (M.ca c) (M.an f) (M.fa g) = true) : PsOk K M c f g := by
  refine ⟨hc, ?_⟩
  unfold psB at h
  split at h
  · rename_i p e
    rw [Bool.and_eq_true] at h
    obtain ⟨d, rest, k⟩ := hd1Is_ok h.2
    exact ⟨p, d, rest, e, of_decide_eq_true h.1, k⟩
  · cases h
def gtB (D : LD) (K : PySem.W.Frag) (gt : List (Str × GK)) : Bool := (gt.all fun p => match p.2 with
  | .fn f => gloB K p.1 && (decide (fpA K (D.fp.get f) = He.ga K p.1) && PySem.W.keepIn K (.ref (He.ga K p.1)))
  | .cls c => gloB K p.1 && decide (cnA K (D.cn.get c) = He.ga K p.1)
  | .cst v => cstB K p.1 v
  | .sm c m f => smB K (cnA K (D.cn.get c)) m (fpA K (D.fp.get f))
  | .why => false) && biN.all fun x => isS (gt.lookup x) || (He.Fa.free x).ok K
def clsFB (K : PySem.W.Frag) (C : Addr) : Bool := PySem.W.plainGet K C Str.empty && (PySem.W.hasDictIn K C && (PySem.W.plainOver K C && (He.eqO (PySem.W.findIn K (.ref C) "__setattr__") (some (some (.builtin "object.__setattr__"))) &&
  (He.eqO (PySem.W.findIn K (.ref C) "__class__") (some (some (.builtin "object.__class__"))) && (He.eqO (PySem.W.specialIn K (.builtin "object.__class__") "__get__") (some (some (.builtin "getset_descriptor.__get__"))) && (decide (PySem.W.takesIn K (.builtin "object.__class__") = some true) && decide (PySem.W.mroIn K C (.type "object") = some true)))))))
def excFB (K : PySem.W.Frag) (C : Addr) : Bool := He.eqO (PySem.W.findIn K (.ref C) "__getattribute__") (some (some (.builtin "BaseException.__getattribute__"))) && (He.eqO (PySem.W.findIn K (.ref C) "__getattr__") (some none) && (decide (PySem.W.subIn K (.ref C) (.type "BaseException") = some true) && (PySem.W.hasDictIn K C &&
  (He.eqO (PySem.W.findIn K (.ref C) "__class__") (some (some (.builtin "object.__class__"))) && (He.eqO (PySem.W.specialIn K (.builtin "object.__class__") "__get__") (some (some (.builtin "getset_descriptor.__get__"))) && (decide (PySem.W.takesIn K (.builtin "object.__class__") = some true) && decide (PySem.W.mroIn K C (.type "object") = some true)))))))
theorem clsFB_ok {K : PySem.W.Frag} {C : Addr} (h : clsFB K C = true) : CFact K C := by
  unfold clsFB at h
  simp only [Bool.and_eq_true] at h
  obtain ⟨h1, h2, h3, h4, h5, h6, h7, h8⟩ := h
  exact ⟨⟨h1, h2, h3, He.eqO_ok h4⟩, He.eqO_ok h5, He.eqO_ok h6, of_decide_eq_true h7, of_decide_eq_true h8⟩
theorem excFB_ok {K : PySem.W.Frag} {C : Addr} (h : excFB K C = true) : ExcC K C := by
  unfold excFB at h
  simp only [Bool.and_eq_true] at h
  obtain ⟨h1, h2, h3, h4, h5, h6, h7, h8⟩ := h
  exact ⟨He.eqO_ok h1, He.eqO_ok h2, of_decide_eq_true h3, h4, He.eqO_ok h5, He.eqO_ok h6, of_decide_eq_true h7, of_decide_eq_true h8⟩
def insI : TyV → Option Nat
  | .ins c => some c
  | _ => none
def excI : TyV → Option Nat
  | .exc c => some c
  | _ => none
def isNo (o : Option (Option Value)) : Bool := He.eqO o (some none)
def xdB (D : LD) (K : PySem.W.Frag) (c : Nat) (t : Nat × List Nat × Option Nat) : Bool := match D.xat.get c with
  | some i => (match D.fx[i]?, D.kns[i]? with
    | some d, some kn => (match xKind d with
      | some (tn, tv, pf) => decide (cnA K (D.cn.get c) = d.C K) && (decide (anOf D.an t.1 = tn) && (decide (t.2.1 = tv.cps.toList) && (decide (t.2.2.map (anOf D.an) = pf.map (·.2)) && (isNo (PySem.W.findIn K (.ref (d.C K)) tn) && ((match pf with
        | some q => isNo (PySem.W.findIn K (.ref (d.C K)) q.2)
        | none => true) && (match D.exk.get c with
        | some k => decide (kn = some (anOf D.an k))
        | none => true))))))
      | none => false)
    | _, _ => false)
  | none => false
def tyL (ca : Nat → Addr) : TyV → Value
  | .non => .type "NoneType"
  | .bl => .type "bool"
  | .int => .type "int"
  | .str => .type "str"
  | .lst => .type "list"
  | .tup => .type "tuple"
  | .dct => .type "dict"
  | .ins c => .ref (ca c)
  | .exc c => .ref (ca c)
def clL (ca : Nat → Addr) : TyC → Value
  | .verr => .type "ValueError"
  | .lerr => .type "LookupError"
  | .ierr => .type "IndexError"
  | .int => .type "int"
  | .bool => .type "bool"
  | .str => .type "str"
  | .list => .type "list"
  | .tuple => .type "tuple"
  | .cls c => .ref (ca c)
theorem tyL_eq (M : Wd) (y : TyV) : tyVal M y = tyL M.ca y := by cases y <;> rfl
theorem clL_eq (M : Wd) (y : TyC) : clVal M y = clL M.ca y := by cases y <;> rfl
/-- the code object of a def, its table -/
def cTab (K : PySem.W.Frag) (d : DF) : Addr × Addr := match K.lookup (d.at_.ad K) with
  | some ⟨_, _, .func fd, _⟩ => (match fd.code with
    | .ref c => (c, He.tabOf K c)
    | _ => (0, 0))
  | _ => (0, 0)
def LD.chk (D : LD) (K : PySem.W.Frag) : Bool :=
  let ca := fun c => cnA K (D.cn.get c)
  let fa := fun f => fpA K (D.fp.get f)
  (D.gts.all (gtB D K)) &&
  ((D.fld.all (fun c r => clsFB K (ca c) && (isY (D.okC.get c) && r.all (fun f _ => isNo (PySem.W.findIn K (.ref (ca c)) (anOf D.an f))) id)) id) &&
  ((D.met.all (fun c r => clsFB K (ca c) && r.all (fun m f => He.eqO (PySem.W.findIn K (.ref (ca c)) (anOf D.an m)) (some (some (.ref (fa f)))) && (PySem.W.isFn K (.ref (fa f)) && PySem.W.keepIn K (.ref (fa f)))) id) id) &&
  ((D.ini.all (fun c f => PySem.W.makesIn K (ca c) && (He.eqO (PySem.W.findIn K (.ref (ca c)) "__init__") (some (some (.ref (fa f)))) && (PySem.W.isFn K (.ref (fa f)) && PySem.W.keepIn K (.ref (ca c))))) id) &&
  ((D.okC.all (fun c _ => clsFB K (ca c)) id) &&
  ((D.kit.all (fun y r => r.all (fun c b => decide (PySem.W.kitOne K (tyL ca (yo y)) (clL ca (co c)) = some b)) id && (optB (fun c => isY (D.okC.get c)) (insI (yo y)) && optB (fun c => excFB K (ca c)) (excI (yo y)))) id) &&
  ((D.xfl.all (fun c r => excFB K (ca c) && r.all (fun f _ => isNo (PySem.W.findIn K (.ref (ca c)) (anOf D.an f))) id) id) &&
  ((D.prp.all (fun c r => clsFB K (ca c) && r.all (fun f g => prB K (ca c) (anOf D.an f) (fa g)) id) id) && ((D.stp.all (fun c r => clsFB K (ca c) && r.all (fun f g => psB K (ca c) (anOf D.an f) (fa g)) id) id) && (D.exc.all (fun c t => xdB D K c t) id)) && ((He.Fa.free "super").ok K && ((K.all fun p => !(p.2.cls == .type "list") && !He.emptyTab p.2) && (D.cat.all (fun c b => decide (PySem.W.exmAny K (.ref (ca c)) [.ref (ca D.cc.1), .ref (ca D.cc.2.1), .ref (ca D.cc.2.2)] = some b)) id && (decide (anOf D.an D.lenM = ("__len__" : Str)) && D.lams.all fun d => PySem.W.codeHdIn K (cTab K d).1 (cTab K d).2)))))))))))
/-! ### the hook -/
abbrev AlW : Type := Bool × List He.FnW × List FnX
def obsW (D : LD) (K : PySem.W.Frag) : AlW := (D.chk K && (D.fn.all (fun d => d.ok K) && D.fx.all fun d => d.ok D.P K), D.fn.map (fun d => fnV K (d.at_.ad K)), D.fx.map fun d => xfV K (d.f K))
def valW (D : LD) : AlW := (true, D.fn.map DF.val, D.fx.map XD.val)
def SaysW (D : LD) (K : PySem.W.Frag) : Prop := obsW D K = valW D
def obsWG (n : Nat) (D : LD) (g : Addr → Option Obj) : AlW := obsW D (He.frT g (cStatics :: He.asD g n))
def hookW (n : Nat) (D : LD) : PySem.W.Hook where
  α := AlW
  obs := fun s => obsWG n D s.heap.get?
  val := fun _ => valW D
  says := fun _ h => ∃ K : PySem.W.Frag, K.In h ∧ SaysW D K
  of := fun _ _ e => ⟨_, He.frT_in, e⟩
  keeps := fun _ _ _ ⟨K, hK, c⟩ k => ⟨K, PySem.W.Frag.In.keeps hK k, c⟩
theorem obsWG_eq {n : Nat} {D : LD} {g : Addr → Option Obj} {s : Shared} (h : ∀ a, g a = s.heap.get? a) : obsWG n D g = (hookW n D).obs s := by
  have e : g = s.heap.get? := funext h
  rw [e] <;> rfl
section
variable {D : LD} {K : PySem.W.Frag}
theorem SaysW.chk (c : SaysW D K) : D.chk K = true ∧ (∀ d ∈ D.fn, d.ok K = true) ∧ ∀ d ∈ D.fx, d.ok D.P K = true := by
  have h := congrArg (fun z : AlW => z.1) c
  have h : (D.chk K && (D.fn.all (fun d => d.ok K) && D.fx.all fun d => d.ok D.P K)) = true := h
  rw [Bool.and_eq_true, Bool.and_eq_true] at h
  exact ⟨h.1, List.all_eq_true.mp h.2.1, List.all_eq_true.mp h.2.2⟩
theorem SaysW.def_ (c : SaysW D K) {i : Nat} {d : DF} (h : D.fn[i]? = some d) : ∃ fd, FunD K d.name d.qual d.params d.body d.scope (d.dvs K) (d.kws K) (d.at_.ad K) fd := by
  have e : D.fn.map (fun d => fnV K (d.at_.ad K)) = D.fn.map DF.val := congrArg (fun z : AlW => z.2.1) c
  have e2 : (D.fn.map fun d => fnV K (d.at_.ad K))[i]? = (D.fn.map DF.val)[i]? := by rw [e]
  rw [List.getElem?_map, List.getElem?_map, h] at e2
  exact DF.funD (Option.some.inj e2) (c.chk.2.1 d (List.mem_of_getElem? h))
theorem SaysW.exc_ (c : SaysW D K) {i : Nat} {d : XD} (h : D.fx[i]? = some d) : d.ok D.P K = true ∧ xfV K (d.f K) = d.val := by
  have e : D.fx.map (fun d => xfV K (d.f K)) = D.fx.map XD.val := congrArg (fun z : AlW => z.2.2) c
  have e2 : (D.fx.map fun d => xfV K (d.f K))[i]? = (D.fx.map XD.val)[i]? := by rw [e]
  rw [List.getElem?_map, List.getElem?_map, h] at e2
  exact ⟨c.chk.2.2 d (List.mem_of_getElem? h), Option.some.inj e2⟩
end
/-- no bound way of the classes' inits fails -/
abbrev XBs (D : LD) : Prop := Paired XBind D.fx D.kns
theorem get2_ok {α : Type} {t : BT (BT α)} {p : Nat → BT α → Bool} {f : Nat → Nat → α → Bool} {i j : Nat} {v : α} (h : t.all p id = true) (hp : ∀ i r, p i r = true → r.all (f i) id = true) (e : get2 t i j = some v) : f i j v = true ∧ ∃ r, p i r = true := by
  unfold get2 at e
  cases q : t.get i with
  | none =>
    rw [q] at e
    cases e
  | some r =>
    rw [q] at e
    have z := BT.all_ok h q
    exact ⟨BT.all_ok (hp i r z) e, r, z⟩
theorem isY_ok {o : Option Unit} (h : isY o = true) : o = some () := by
  cases o with
  | none => cases h
  | some u => rfl
section
variable {D : LD} {P : Program} {w : World} {K : PySem.W.Frag} {mg : Str → Option Value} {base h : Heap} {O : Orc} {t : Toks}
/-- THE TABLES say what the engine wants -/
theorem LD.wok (hi : anGood D.an = true) (KX : K.In h) (G : h.Ns mainGlobals mg) (cc : SaysW D K) (xb : XBs D) (hP : D.P = P) (ht : (P.main.scope.names.lookup ("super" : Str)).isSome = false) {gt : List (Str × GK)} (hg : gt ∈ D.gts) :
    Wok gt D.an D.T (D.M hi K t) O P w K mg base := by
  have ck := cc.chk.1
  unfold LD.chk at ck
  simp only [Bool.and_eq_true] at ck
  obtain ⟨k1, k2, k3, k4, k5, k6, k7, ⟨kp, ks, k8⟩, k9, k10, k11, k12⟩ := ck
  have g1 := List.all_eq_true.mp k1 gt hg
  unfold gtB at g1
  rw [Bool.and_eq_true] at g1
  have ga := fun (x : Str) (y : GK) (e : gt.lookup x = some y) => List.all_eq_true.mp g1.1 (x, y) (lookup_mem e)
  have okc : ∀ c, D.T.okC c = true → CFact K ((D.M hi K t).ca c) := fun c e => clsFB_ok (BT.all_ok k5 (isY_ok e))
  refine { fn := fun x f e => ?_, cls := fun x c e => ?_, made := fun c g e => ?_, cst := fun x v e => ?_, bi := fun x hb e => ?_, sm := fun x c m f e => ?_, an := fun x n e => anOf_ix e, tok := ?_, met := fun m c g e => ?_, prp := fun f c g e => ?_, stp := fun f c g e => ?_, why := fun x e => (by cases ga x _ e), lenM := of_decide_eq_true k12.1, xk := ?_, xc := ?_ }
  · have q := ga x _ e
    simp only [Bool.and_eq_true] at q
    have e2 : (D.M hi K t).fa f = He.ga K x := of_decide_eq_true q.2.1
    rw [e2]
    exact ⟨He.glo_ok KX G (x := x) q.1, q.2.2⟩
  · have q := ga x _ e
    simp only [Bool.and_eq_true] at q
    have e2 : (D.M hi K t).ca c = He.ga K x := of_decide_eq_true q.2
    rw [e2]
    exact He.glo_ok KX G (x := x) q.1
  · have q := BT.all_ok k4 (show D.ini.get c = some g from e)
    simp only [Bool.and_eq_true] at q
    exact ⟨⟨q.1, He.eqO_ok q.2.1, q.2.2.1, q.2.2.2⟩⟩
  · have q := ga x _ e
    have q : cstB K x v = true := q
    cases v with
    | int i =>
      obtain ⟨t, e⟩ := He.int_ok KX G q
      exact ⟨_, .int i, e, ⟨t, rfl⟩, rfl⟩
    | str z =>
      obtain ⟨t, e⟩ := He.str_ok KX G q
      exact ⟨_, .str ⟨z.toArray⟩, e, ⟨t, rfl⟩, rfl⟩
    | _ => cases q
  · exact smB_ok (ga x _ e)
  · have q := List.all_eq_true.mp g1.2 x (by simpa using hb)
    rw [e] at q
    exact He.free_ok KX G q
  · refine ⟨fun c d b e => ?_, fun c f e => ?_, fun y c b e => ?_, okc, fun c d b e => ?_, fun c f e => ?_⟩
    · have q := (get2_ok (f := fun y c b => true) k6 (fun i r z => by
        have : ∀ (t : BT Bool) (g : Nat → Nat), t.all (fun _ _ => true) g = true := fun t => by
          induction t with
          | nil => exact fun _ => rfl
          | nd o l r i1 i2 =>
            intro g
            show (optB (fun _ => true) o && (l.all _ _ && r.all _ _)) = true
            rw [i1, i2]
            cases o <;> rfl
        exact this r id) e).2
      obtain ⟨r, q⟩ := q
      simp only [Bool.and_eq_true] at q
      have q := q.2.2
      rw [yo_yi] at q
      exact excFB_ok q
    · have q := get2_ok (f := fun c f _ => isNo (PySem.W.findIn K (.ref (cnA K (D.cn.get c))) (anOf D.an f))) k7 (fun i r z => by
        rw [Bool.and_eq_true] at z
        exact z.2) (isY_ok e)
      obtain ⟨q1, r, q2⟩ := q
      rw [Bool.and_eq_true] at q2
      have z := excFB_ok q2.1
      exact ⟨⟨z.hg, z.hk, z.hs, z.hd⟩, He.eqO_ok q1⟩
    · have q := (get2_ok k6 (fun i r z => by
        rw [Bool.and_eq_true] at z
        exact z.1) e).1
      rw [yo_yi, co_ci] at q
      have q := of_decide_eq_true q
      rw [tyL_eq, clL_eq]
      exact q
    · have q := (get2_ok (f := fun y c b => true) k6 (fun i r z => by
        have : ∀ (t : BT Bool) (g : Nat → Nat), t.all (fun _ _ => true) g = true := fun t => by
          induction t with
          | nil => exact fun _ => rfl
          | nd o l r i1 i2 =>
            intro g
            show (optB (fun _ => true) o && (l.all _ _ && r.all _ _)) = true
            rw [i1, i2]
            cases o <;> rfl
        exact this r id) e).2
      obtain ⟨r, q⟩ := q
      simp only [Bool.and_eq_true] at q
      have q := q.2.1
      rw [yo_yi] at q
      exact q
    · have q := get2_ok (f := fun c f _ => isNo (PySem.W.findIn K (.ref (cnA K (D.cn.get c))) (anOf D.an f))) k2 (fun i r z => by
        rw [Bool.and_eq_true, Bool.and_eq_true] at z
        exact z.2.2) (isY_ok e)
      obtain ⟨q1, r, q2⟩ := q
      rw [Bool.and_eq_true, Bool.and_eq_true] at q2
      exact ⟨q2.2.1, He.eqO_ok q1⟩
  · obtain ⟨q1, r, q2⟩ := get2_ok (f := fun c m f => He.eqO (PySem.W.findIn K (.ref (cnA K (D.cn.get c))) (anOf D.an m)) (some (some (.ref (fpA K (D.fp.get f))))) && (PySem.W.isFn K (.ref (fpA K (D.fp.get f))) && PySem.W.keepIn K (.ref (fpA K (D.fp.get f))))) k3 (fun i r z => by
      rw [Bool.and_eq_true] at z
      exact z.2) e
    rw [Bool.and_eq_true, Bool.and_eq_true] at q1
    rw [Bool.and_eq_true] at q2
    exact ⟨(clsFB_ok q2.1).cl, ⟨He.eqO_ok q1.1, q1.2.1, q1.2.2⟩⟩
  · obtain ⟨q1, r, q2⟩ := get2_ok (f := fun c f g => prB K (cnA K (D.cn.get c)) (anOf D.an f) (fpA K (D.fp.get g))) kp (fun i r z => by
      rw [Bool.and_eq_true] at z
      exact z.2) e
    rw [Bool.and_eq_true] at q2
    exact ⟨(clsFB_ok q2.1).cl, prB_ok q1⟩
  · obtain ⟨q1, r, q2⟩ := get2_ok (f := fun c f g => psB K (cnA K (D.cn.get c)) (anOf D.an f) (fpA K (D.fp.get g))) ks (fun i r z => by
      rw [Bool.and_eq_true] at z
      exact z.2) e
    rw [Bool.and_eq_true] at q2
    exact psB_ok (clsFB_ok q2.1).cl q1
  · intro X e1 e2 e3 e4 e5 c k tf tag pf et ek
    subst e1 e2 e3 e4 e5
    have q := BT.all_ok k8 (show D.exc.get c = some (tf, tag, pf) from et)
    unfold xdB at q
    split at q
    · rename_i i hx
      split at q
      · rename_i d kn hd hn
        split at q
        · rename_i tn tv pf2 hk
          simp only [Bool.and_eq_true] at q
          obtain ⟨q1, q2, q3, q4, q5, q6, q7⟩ := q
          obtain ⟨d1, d2⟩ := SaysW.exc_ cc hd
          have hk2 : D.exk.get (id c) = some k := ek
          rw [hk2] at q7
          have q7 := of_decide_eq_true q7
          obtain ⟨kn', hn', B⟩ := pGet xb hd
          rw [hn] at hn'
          cases hn'
          refine XD.xkey (k := k) (by rw [← hP]; exact d1) d2 ht (He.free_ok KX G k9) hk (He.eqO_ok q5) (fun x fn e => ?_) (of_decide_eq_true q1) (of_decide_eq_true q2) (of_decide_eq_true q3) (of_decide_eq_true q4) B q7
          subst e
          exact He.eqO_ok q6
        · cases q
      · cases q
    · cases q
  · intro X e1 e2 e3 e4 e5 c tf tag pf et
    subst e1 e2 e3 e4 e5
    have q := BT.all_ok k8 (show D.exc.get c = some (tf, tag, pf) from et)
    unfold xdB at q
    split at q
    · rename_i i hx
      split at q
      · rename_i d kn hd hn
        split at q
        · rename_i tn tv pf2 hk
          simp only [Bool.and_eq_true] at q
          obtain ⟨q1, q2, q3, q4, q5, q6, q7⟩ := q
          obtain ⟨d1, d2⟩ := SaysW.exc_ cc hd
          obtain ⟨kn', hn', B⟩ := pGet xb hd
          refine XD.xok (by rw [← hP]; exact d1) d2 ht (He.free_ok KX G k9) hk (He.eqO_ok q5) (fun x fn e => ?_) (of_decide_eq_true q1) (of_decide_eq_true q2) (of_decide_eq_true q3) (of_decide_eq_true q4) B
          subst e
          exact He.eqO_ok q6
        · cases q
      · cases q
    · cases q
end
end MP
set_option linter.all false
set_option maxRecDepth 100000
set_option maxHeartbeats 8000000
/-! All defs keep their small functions; the end of a law. -/
namespace MP
open PySem PySem.Spec PyProof.Rows L2 NdefX
/-- the calls, to a depth -/
def fuelN : Nat := 4000
def Or (D : LD) (k : Nat) : Orc := Nat.rec (fun _ _ _ => .no) (fun _ ih f us h => match D.fi.get f with
  | some x => runB D.T ih f fuelN x.slots x.body us h
  | none => .no) k
theorem Or_succ (D : LD) (k f : Nat) (us : List Va) (h : Hv) : Or D (k + 1) f us h = match D.fi.get f with
  | some x => runB D.T (Or D k) f fuelN x.slots x.body us h
  | none => .no := rfl
/-- what is known of a def of the text -/
structure DD (D : LD) (f : Nat) : Prop where
  ex : ∃ (i : Nat) (d : DF) (gt : List (Str × GK)) (N ps : List Str) (c m : Nat) (x : Fi), D.fn[i]? = some d ∧ D.fp.get f = some d.at_ ∧ gt ∈ D.gts ∧ FnScope N ps d.scope ∧ D.fi.get f = some x ∧ x.ar = ps.length ∧ x.slots = N.length ∧ 0 < x.lv ∧
    cSs c m ⟨N, d.scope, gt, D.an, false⟩ d.body = some x.body ∧
    ∀ (M : Wd) (K : PySem.W.Frag) (fd : FuncData), M.an = anOf D.an → FunD K d.name d.qual d.params d.body d.scope (d.dvs K) (d.kws K) (d.at_.ad K) fd → (∀ j, j ≤ x.dfl.length - (x.ar - x.np) → Dfs M K fd ps (x.dfl.drop j)) ∧ ∀ n ks ds, (n, ks, ds) ∈ x.kw → KwD M K fd ps n ks ds
/-- no defaults -/
theorem dfs_none {d : DF} {ps : List Str} {B : Nat} (h1 : d.dfl = []) (h2 : d.kwd = []) (hb : ∀ (kV doc pm : Value) (an : Option Addr) (cdv ct : Value) (us : List Value), us.length = ps.length → bindArgs (PySem.W.fnOf d.name d.qual d.params d.body d.scope .none kV doc pm an cdv ct) ⟨us, []⟩ = pure (ps.zip us))
    (M : Wd) (K : PySem.W.Frag) (fd : FuncData) (F : FunD K d.name d.qual d.params d.body d.scope (d.dvs K) (d.kws K) (d.at_.ad K) fd) : ∀ j, j ≤ B → Dfs M K fd ps (([] : List Va).drop j) := fun j _ => by
  have e1 : d.dvs K = [] := by unfold DF.dvs; rw [h1]; rfl
  rw [e1] at F
  rw [List.drop_nil]
  exact ⟨[], [], F.bindsN hb, .nil, .nil⟩
/-- keyword-only defaults alone -/
theorem dfs_kwo {d : DF} {ps : List Str} {sd : List Va} {n : Nat} (h1 : d.dfl = []) (h2 : d.kwd ≠ []) (hn : n + d.kwd.length = ps.length) (hv : ∀ (M : Wd) (K : PySem.W.Frag), RVs M [] sd ((d.kws K).map (·.2)))
    (hb : ∀ (D : Addr) (doc pm : Value) (an : Option Addr) (cdv ct : Value) (us ks : List Value), us.length = n → ks.length = d.kwd.length → KwChain D ((d.kwd.map (·.1)).zip ks) (bindArgs (PySem.W.fnOf d.name d.qual d.params d.body d.scope .none (.ref D) doc pm an cdv ct) ⟨us, []⟩) (ps.zip (us ++ ks)))
    (M : Wd) (K : PySem.W.Frag) (fd : FuncData) (F : FunD K d.name d.qual d.params d.body d.scope (d.dvs K) (d.kws K) (d.at_.ad K) fd) : ∀ j, j ≤ 0 → Dfs M K fd ps (sd.drop j) := fun j hj => by
  have e1 : d.dvs K = [] := by unfold DF.dvs; rw [h1]; rfl
  rw [e1] at F
  have ln : (d.kws K).length = d.kwd.length := by unfold DF.kws; rw [List.length_map]
  have mp : (d.kws K).map (·.1) = d.kwd.map (·.1) := by unfold DF.kws; rw [List.map_map]; rfl
  obtain rfl : j = 0 := Nat.le_zero.mp hj
  obtain ⟨ds, vl, bd⟩ := F.binds0 n (fun z => h2 (by have := congrArg List.length z; rw [ln] at this; exact List.length_eq_zero_iff.mp this)) (by rw [ln]; exact hn) fun D doc pm an cdv ct us ks l1 l2 => by
    rw [mp]
    exact hb D doc pm an cdv ct us ks l1 (by rw [l2, ln])
  exact ⟨ds, _, bd, vl, hv M K⟩
/-- a call with keywords, none lacks -/
theorem kb_of {d : DF} {ps : List Str} {n : Nat} {ks : List Str} (h1 : d.dfl = []) (hb : ∀ (kV doc pm : Value) (an : Option Addr) (cdv ct : Value) (us ws : List Value), us.length = n → ws.length = ks.length → bindArgs (PySem.W.fnOf d.name d.qual d.params d.body d.scope .none kV doc pm an cdv ct) ⟨us, ks.zip ws⟩ = pure (ps.zip (us ++ ws)))
    {K : PySem.W.Frag} {fd : FuncData} (F : FunD K d.name d.qual d.params d.body d.scope (d.dvs K) (d.kws K) (d.at_.ad K) fd) : KBn K fd ps n ks (fun us ws => us ++ ws) (fun us ws => us ++ ws) := by
  have e1 : d.dvs K = [] := by unfold DF.dvs; rw [h1]; rfl
  rw [e1] at F
  obtain ⟨oc, od, dV, kV, doc, pm, an, cdv, ct, osl, rfl, lk, hcd, hD, hK⟩ := F.ex
  rcases hD with ⟨_, rfl⟩ | ⟨e, _⟩
  · exact ⟨fun s us ws X l1 l2 => .of_eq (hb kV doc pm an cdv ct us ws l1 l2), fun r1 r2 => Vals.append r1 r2⟩
  · exact absurd rfl e
theorem kwD_none {d : DF} {ps : List Str} {n : Nat} {ki : List Nat} {ks : List Str} {M : Wd} (hM : ki.map M.an = ks) (h1 : d.dfl = []) (hb : ∀ (kV doc pm : Value) (an : Option Addr) (cdv ct : Value) (us ws : List Value), us.length = n → ws.length = ks.length → bindArgs (PySem.W.fnOf d.name d.qual d.params d.body d.scope .none kV doc pm an cdv ct) ⟨us, ks.zip ws⟩ = pure (ps.zip (us ++ ws)))
    {K : PySem.W.Frag} {fd : FuncData} (F : FunD K d.name d.qual d.params d.body d.scope (d.dvs K) (d.kws K) (d.at_.ad K) fd) : KwD M K fd ps n ki [] := by
  refine ⟨[], [], ?_, .nil⟩
  rw [hM]
  have k := kb_of h1 hb F
  refine ⟨fun s us ws X l1 l2 => ?_, fun r1 r2 => ?_⟩
  · rw [List.append_nil]
    exact k.to s us ws X l1 l2
  · rw [List.append_nil, List.append_nil]
    exact k.rel r1 r2
/-- .. the keyword-only ones lack -/
theorem kwD_lack {d : DF} {ps : List Str} {n : Nat} {ki : List Nat} {ks : List Str} {M : Wd} {sd : List Va} (hM : ki.map M.an = ks) (h1 : d.dfl = []) (h2 : d.kwd ≠ []) (hv : ∀ (M : Wd) (K : PySem.W.Frag), RVs M [] sd ((d.kws K).map (·.2)))
    (hb : ∀ (D : Addr) (doc pm : Value) (an : Option Addr) (cdv ct : Value) (us mv ws : List Value), us.length = n → mv.length = d.kwd.length → ws.length = ks.length → KwChain D ((d.kwd.map (·.1)).zip mv) (bindArgs (PySem.W.fnOf d.name d.qual d.params d.body d.scope .none (.ref D) doc pm an cdv ct) ⟨us, ks.zip ws⟩) (ps.zip (us ++ ws ++ mv)))
    {K : PySem.W.Frag} {fd : FuncData} (F : FunD K d.name d.qual d.params d.body d.scope (d.dvs K) (d.kws K) (d.at_.ad K) fd) : KwD M K fd ps n ki sd := by
  have e1 : d.dvs K = [] := by unfold DF.dvs; rw [h1]; rfl
  rw [e1] at F
  have ln : (d.kws K).length = d.kwd.length := by unfold DF.kws; rw [List.length_map]
  have mp : (d.kws K).map (·.1) = d.kwd.map (·.1) := by unfold DF.kws; rw [List.map_map]; rfl
  obtain ⟨mv, kb⟩ := F.kbinds0 n ks (d.kws K) (fun us mv ws => us ++ ws ++ mv) (fun z => h2 (by have := congrArg List.length z; rw [ln] at this; exact List.length_eq_zero_iff.mp this)) (fun q hq => hq) (fun r1 r2 r3 => Vals.append (Vals.append r1 r3) r2) fun D doc pm an cdv ct us mv ws l1 l2 l3 => by
    rw [mp]
    exact hb D doc pm an cdv ct us mv ws l1 (by rw [l2, ln]) l3
  exact ⟨mv, _, by rw [hM]; exact kb, hv M K⟩
section
variable {D : LD} {P : Program} {w : World} {K : PySem.W.Frag} {mg : Str → Option Value} {base h : Heap} {t : Toks}
theorem all_dok (hi : anGood D.an = true) (KX : K.In h) (G : h.Ns mainGlobals mg) (c : SaysW D K) (xb : XBs D) (hP : D.P = P) (ht : (P.main.scope.names.lookup ("super" : Str)).isSome = false) (dd : ∀ f x, D.fi.get f = some x → DD D f) :
    ∀ k f, D.T.lv f ≤ k → k < 100000 → DOk P w K mg base D.T (D.M hi K t) (Or D k) f := by
  intro k
  induction k with
  | zero =>
    intro f hf hk
    exfalso
    cases e : D.fi.get f with
    | none =>
      have : D.T.lv f = 100000 := by
        show fiLv (D.fi.get f) = _
        rw [e]
        rfl
      omega
    | some x =>
      obtain ⟨i, d, gt, N, ps, c', m, x', _, _, _, _, e2, _, _, hl, _⟩ := (dd f x e).ex
      rw [e] at e2
      cases e2
      have : D.T.lv f = x.lv := by
        show fiLv (D.fi.get f) = _
        rw [e]
        rfl
      omega
  | succ k ih =>
    intro f hf hk
    cases e : D.fi.get f with
    | none =>
      exfalso
      have : D.T.lv f = 100000 := by
        show fiLv (D.fi.get f) = _
        rw [e]
        rfl
      omega
    | some x =>
      obtain ⟨i, d, gt, N, ps, c', m, x', h1, h2, h3, h4, e2, h5, h6, h7, h8, h9⟩ := (dd f x e).ex
      rw [e] at e2
      cases e2
      obtain ⟨fd, F⟩ := c.def_ h1
      have ea : (D.M hi K t).fa f = d.at_.ad K := by
        show fpA K (D.fp.get f) = _
        rw [h2]
        rfl
      have elv : D.T.lv f = x.lv := by
        show fiLv (D.fi.get f) = _
        rw [e]
        rfl
      have ear : D.T.ar f = x.ar := by
        show fiAr (D.fi.get f) = _
        rw [e]
        rfl
      have enp : D.T.pos f = x.np := by
        show fiNp (D.fi.get f) = _
        rw [e]
        rfl
      have ekw : D.T.kwo f = x.kw := by
        show fiKw (D.fi.get f) = _
        rw [e]
        rfl
      have edf : D.T.dfl f = x.dfl := by
        show fiDf (D.fi.get f) = _
        rw [e]
        rfl
      refine dok_of (O := Or D k) (n := fuelN) (D.wok hi KX G c xb hP ht h3) (by rw [ea]; exact F) h4 (by rw [ear, h5]) (by rw [elv]; exact h7) h8 (fun g hg => ih g (by omega) (by omega)) (fun us hh hl => ?_) (by rw [edf, ear, enp]; exact (h9 (D.M hi K t) K fd rfl F).1) (by rw [ekw]; exact (h9 (D.M hi K t) K fd rfl F).2)
      rw [Or_succ, e, ← h6]
      exact Le.refl _
end
theorem sql_lst {K : PySem.W.Frag} {H : Hp} {a : Addr} {xs : List V} (hk : (K.all fun p => !(p.2.cls == .type "list") && !He.emptyTab p.2) = true) (h : SqL K H a xs) : Rd H a (.lst xs) := by
  rcases h with h | ⟨o, its, n, hl, hc, _⟩
  · exact h
  · exfalso
    have q := List.all_eq_true.mp hk _ (lookup_memA hl)
    rw [Bool.and_eq_true, hc] at q
    exact absurd q.1 (by decide)
where lookup_memA {α : Type} {x : Addr} : ∀ {l : List (Addr × α)} {t : α}, l.lookup x = some t → (x, t) ∈ l
  | [], _, h => by cases h
  | (y, u) :: l, t, h => by
    rw [List.lookup_cons] at h
    split at h
    · rename_i q
      cases h
      rw [beq_iff_eq.mp q]
      exact List.mem_cons_self ..
    · exact List.mem_cons_of_mem _ (lookup_memA h)
/-- the script's heap -/
def hS (ns : List Int) : Hv := (⟨.nil, 0⟩ : Hv).new (.frz (.lst (ns.map Va.int)))
theorem emb_script {M : Wd} {H : Hp} {a : Addr} {ns : List Int} {o : Obj} (h : H a = some (.frz o (.lst (ns.map V.int)))) (ht : LamX.Tabs M.tbs H) : Emb M [a] (hS ns) H where
  len := rfl
  tab := ht
  nd := List.nodup_cons.mpr ⟨by simp, List.nodup_nil⟩
  tr := fun p hp => by
    rw [List.mem_singleton.mp hp]
    exact ⟨_, h, fun _ => nofun, fun _ => nofun⟩
  at_ := fun b u e => by
    unfold hS at e
    rw [Hv.get_new] at e
    by_cases q : b = 0
    · rw [if_pos q] at e
      cases e
      subst q
      refine ⟨a, _, rfl, h, o, _, rfl, _, rfl, ?_⟩
      have go : ∀ l : List Int, RVs M [a] (l.map Va.int) (l.map V.int) := fun l => by
        induction l with
        | nil => exact .nil
        | cons i l ih => exact .cons rfl ih
      exact go ns
    · rw [if_neg q] at e
      cases e
/-- .. whichever way it is there -/
def hZ (o : Ob) : Hv := (⟨.nil, 0⟩ : Hv).new o
theorem emb_script2 {M : Wd} {H : Hp} {a : Addr} {ns : List Int} (h : Rd H a (.lst (ns.map V.int))) : ∃ o0 : Ob, (o0 = .frz (.lst (ns.map Va.int)) ∨ o0 = .lst (ns.map Va.int)) ∧ ∀ (M : Wd), LamX.Tabs M.tbs H → Emb M [a] (hZ o0) H := by
  have go : ∀ (M : Wd) (l : List Int), RVs M [a] (l.map Va.int) (l.map V.int) := fun M l => by
    induction l with
    | nil => exact .nil
    | cons i l ih => exact .cons rfl ih
  rcases h with h | ⟨o, h⟩
  · refine ⟨_, .inr rfl, fun M ht => ⟨rfl, List.nodup_cons.mpr ⟨by simp, List.nodup_nil⟩, fun p hp => ?_, fun b u e => ?_, ht⟩⟩
    · rw [List.mem_singleton.mp hp]
      exact ⟨_, h, fun _ => nofun, fun _ => nofun⟩
    · unfold hZ at e
      rw [Hv.get_new] at e
      by_cases q : b = 0
      · rw [if_pos q] at e
        cases e
        subst q
        exact ⟨a, _, rfl, h, _, rfl, go M ns⟩
      · rw [if_neg q] at e
        cases e
  · exact ⟨_, .inl rfl, fun M ht => emb_script h ht⟩
end MP
set_option linter.all false
set_option maxRecDepth 100000
set_option maxHeartbeats 8000000
/-! The head's run, its facts apart (the memory's lid). -/
namespace MP
open PySem PySem.W PySem.Calls PyProof.Rows
noncomputable abbrev endS (R : OpenRow) (w : World) (os : OsState) : Option SharedT := HandSHeadRun.endF (HandSHeadRun.stepQ (HandSHeadRun.denQ HandSHeadRun.tabQ) R.prog w) 100000 R.prog w os
def kOf (n : Nat) (s : SharedT) : PySem.W.Frag := He.frT (HandSHeadRun.getT s) (cStatics :: He.asD (HandSHeadRun.getT s) n)
def RunA (R : OpenRow) (q : Program) (loose : List PySem.Str) (w : World) : Prop :=
  ∀ os : OsState, (endS R w os).map (fun s => (HandSHeadRun.looksF R.prog (boot_heap w.params) s.abs, HandSHeadRun.seenQ q loose (importedModules R.prog.main.body) (fun s => xlAt q [] s && recOk R.toRowW.records s) s.abs)) = some (true, openGood q loose)
def RunB (R : OpenRow) (n : Nat) (D : LD) (w : World) : Prop := ∀ os : OsState, (endS R w os).map (fun s => D.chk (kOf n s)) = some true
def RunC (R : OpenRow) (n : Nat) (D : LD) (w : World) : Prop := ∀ os : OsState, (endS R w os).map (fun s => D.fn.all (fun d => d.ok (kOf n s)) && D.fx.all fun d => d.ok D.P (kOf n s)) = some true
def RunD (R : OpenRow) (n : Nat) (D : LD) (w : World) : Prop :=
  ∀ os : OsState, (endS R w os).map (fun s => (D.fn.map (fun d => fnV (kOf n s) (d.at_.ad (kOf n s))), D.fx.map fun d => xfV (kOf n s) (d.f (kOf n s)))) = some (D.fn.map DF.val, D.fx.map XD.val)
theorem run_of {R : OpenRow} {q : Program} {loose : List PySem.Str} {n : Nat} {D : LD} {w : World} (a : RunA R q loose w) (b : RunB R n D w) (c : RunC R n D w) (d : RunD R n D w) :
    HandSHeadRun.RunEq R q (hookW n D) (fun s => obsWG n D (HandSHeadRun.getT s)) 100000 loose w := fun os => by
  obtain ⟨s, e, a⟩ := Option.map_eq_some_iff.mp (a os)
  have b := b os
  have c := c os
  have d := d os
  unfold endS at e b c d
  rw [e] at b c d
  have b : D.chk (kOf n s) = true := Option.some.inj b
  have c : (D.fn.all (fun d => d.ok (kOf n s)) && D.fx.all fun d => d.ok D.P (kOf n s)) = true := Option.some.inj c
  have d : (D.fn.map (fun d => fnV (kOf n s) (d.at_.ad (kOf n s))), D.fx.map fun d => xfV (kOf n s) (d.f (kOf n s))) = (D.fn.map DF.val, D.fx.map XD.val) := Option.some.inj d
  rw [e]
  obtain ⟨a1, a2⟩ := Prod.mk.inj a
  obtain ⟨d1, d2⟩ := Prod.mk.inj d
  refine congrArg some ?_
  refine Prod.ext a1 (Prod.ext a2 ?_)
  show obsW D (kOf n s) = valW D
  unfold obsW valW
  rw [b, c, d1, d2]
  rfl
end MP
set_option linter.all false
set_option maxRecDepth 100000
set_option maxHeartbeats 8000000
/-! The def that gets lambdas, by the head's facts; a law that makes lambdas. -/
namespace MP
open PySem PySem.Spec PyProof.Rows L2 NdefX
structure WyD where
  x : Str
  dw : DF
  iw : Nat
  df : DF
  jf : Nat
  n : WyN
  Nf : List Str
  ef : Str
structure WyOk (D : LD) (gt : List (Str × GK)) (y : WyD) (wp : FxP) : Prop where
  hw : D.fn[y.iw]? = some y.dw
  hf : D.fn[y.jf]? = some y.df
  aw : y.dw.at_ = .glo y.x
  nw : y.dw.name = y.x
  qw : y.dw.qual = y.x
  bw : whyN y.dw.body = some y.n
  Sw : FnScope [y.n.a, y.n.told, y.n.e] [y.n.a] y.dw.scope
  lt : y.dw.scope.names.lookup y.n.told = some .local
  le : y.dw.scope.names.lookup y.n.e = some .local
  g1 : y.dw.scope.names.lookup y.n.x1 = some .globalImplicit
  g2 : y.dw.scope.names.lookup y.n.x2 = some .globalImplicit
  g3 : y.dw.scope.names.lookup y.n.x3 = some .globalImplicit
  g4 : y.dw.scope.names.lookup y.n.lf = some .globalImplicit
  ok : (okName y.n.a && okName y.n.told && okName y.n.e && okName y.n.x1 && okName y.n.x2 && okName y.n.x3 && okName y.n.lf) = true
  okx : okName y.x = true
  k1 : gt.lookup y.n.x1 = some (.cls D.cc.1)
  k2 : gt.lookup y.n.x2 = some (.cls D.cc.2.1)
  k3 : gt.lookup y.n.x3 = some (.cls D.cc.2.2)
  k4 : ∃ f, gt.lookup y.n.lf = some (.fn f) ∧ D.fp.get f = some y.df.at_
  kw : ∃ f, gt.lookup y.x = some (.fn f) ∧ D.fp.get f = some y.dw.at_
  Sf : FnScope y.Nf [y.ef] y.df.scope
  nf : y.Nf[0]? = some y.ef
  bf : cFxB D.an y.ef (anOf D.an wp.tg) y.df.body = some (wp.is, wp.el)
  okf : okName y.ef = true
  wf : D.wfx = some wp
  tg : y.n.tgn = anOf D.an wp.tg
  dw0 : y.dw.dfl = []
  df0 : y.df.dfl = []
  b1 : ∀ (kV doc pm : Value) (an : Option Addr) (cdv ct : Value) (us : List Value), us.length = [y.n.a].length → bindArgs (PySem.W.fnOf y.dw.name y.dw.qual y.dw.params y.dw.body y.dw.scope .none kV doc pm an cdv ct) ⟨us, []⟩ = pure ([y.n.a].zip us)
  b2 : ∀ (kV doc pm : Value) (an : Option Addr) (cdv ct : Value) (us : List Value), us.length = [y.ef].length → bindArgs (PySem.W.fnOf y.df.name y.df.qual y.df.params y.df.body y.df.scope .none kV doc pm an cdv ct) ⟨us, []⟩ = pure ([y.ef].zip us)
section
variable {D : LD} {P : Program} {w : World} {K : PySem.W.Frag} {mg : Str → Option Value} {base h : Heap} {O : Orc} {t : Toks}
theorem LD.whyOk {gt : List (Str × GK)} {y : WyD} {wp : FxP} (hi : anGood D.an = true) (wk : Wok gt D.an D.T (D.M hi K t) O P w K mg base) (cc : SaysW D K) (Y : WyOk D gt y wp) : WhyOk D.T (D.M hi K t) P w K mg base y.x := by
  obtain ⟨fw, Fw⟩ := cc.def_ Y.hw
  obtain ⟨ff, Ff⟩ := cc.def_ Y.hf
  obtain ⟨f1, e1, e2⟩ := Y.kw
  obtain ⟨f2, e3, e4⟩ := Y.k4
  have ew : (D.M hi K t).fa f1 = y.dw.at_.ad K := by
    show fpA K (D.fp.get f1) = _
    rw [e2]
    rfl
  have ef : (D.M hi K t).fa f2 = y.df.at_.ad K := by
    show fpA K (D.fp.get f2) = _
    rw [e4]
    rfl
  obtain ⟨m1, kp1⟩ := wk.fn _ _ e1
  obtain ⟨m2, kp2⟩ := wk.fn _ _ e3
  rw [ew] at m1 kp1
  rw [ef] at m2 kp2
  have dw : y.dw.dvs K = [] := by unfold DF.dvs; rw [Y.dw0]; rfl
  have df : y.df.dvs K = [] := by unfold DF.dvs; rw [Y.df0]; rfl
  have Fw2 := Fw
  rw [dw] at Fw2
  have bw := Fw2.bindsN Y.b1
  have Ff2 := Ff
  rw [df] at Ff2
  have bf := Ff2.bindsN Y.b2
  have fa := fx_fnA (T := D.T) (P := P) (w := w) (mg := mg) (base := base) (an := D.an) (wp := wp) (p := (wp.is, wp.el)) Ff Y.Sf Y.nf wk.tok wk.an Y.okf Y.wf Y.bf
  obtain ⟨oc, od, dV, kV, doc, pm, an, cdv, ct, osl, rfl, lk, hcd, hD, hK⟩ := Fw.ex
  have ck := cc.chk.1
  unfold LD.chk at ck
  simp only [Bool.and_eq_true] at ck
  obtain ⟨_, _, _, _, _, _, _, _, _, _, k11, _⟩ := ck
  rw [Y.nw, Y.qw] at lk bw
  rw [Y.qw] at hcd
  refine ⟨y.n.a, _, _, _, _, _, _, _, _, _, _, _, _, _, _, _, m1, kp1, lk, hcd, bw, Y.Sw, rfl, ?_, Y.okx, ?_, fun X h1 h2 h3 h4 h5 hr q => ?_⟩
  · rcases Y.Sw.par _ (List.mem_singleton.mpr rfl) with k | k
    · exact .inl k
    · exact .inr (.inl k)
  · have := Y.ok
    simp only [Bool.and_eq_true] at this
    exact this.1.1.1.1.1.1
  · subst h1 h2 h3 h4 h5
    exact why_gives (n := y.n) Y.bw rfl Y.Sw Y.lt Y.le Y.g1 Y.g2 Y.g3 Y.g4 Y.ok (wk.cls _ _ Y.k1) (wk.cls _ _ Y.k2) (wk.cls _ _ Y.k3) m2 kp2 fa bf (fun c b e => of_decide_eq_true (BT.all_ok k11 (show D.cat.get c = some b from e))) Y.wf wk.tok Y.tg hr
theorem lookup_cons_ne {α : Type} {x y : Str} {v : α} {l : List (Str × α)} (h : x ≠ y) : ((y, v) :: l).lookup x = l.lookup x := by
  rw [List.lookup_cons, show (x == y) = false by simpa using h]
theorem wok_why {gt : List (Str × GK)} {an : List Str} {T : Tb} {M : Wd} {x : Str} (wk : Wok gt an T M O P w K mg base) (hw : WhyOk T M P w K mg base x) : Wok ((x, .why) :: gt) an T M O P w K mg base := by
  have at_ : ∀ {y : Str} {g : GK}, g ≠ .why → ((x, GK.why) :: gt).lookup y = some g → gt.lookup y = some g := fun {y g} ne e => by
    rw [List.lookup_cons] at e
    split at e
    · cases e
      exact absurd rfl ne
    · exact e
  refine { fn := fun y f e => wk.fn y f (at_ nofun e), cls := fun y c e => wk.cls y c (at_ nofun e), made := wk.made, cst := fun y v e => wk.cst y v (at_ nofun e), bi := fun y hb e => wk.bi y hb ?_, sm := fun y c m f e => wk.sm y c m f (at_ nofun e), an := wk.an, tok := wk.tok, met := wk.met, prp := wk.prp, stp := wk.stp, why := fun y e => ?_, lenM := wk.lenM, xk := wk.xk, xc := wk.xc }
  · rw [List.lookup_cons] at e
    split at e
    · cases e
    · exact e
  · rw [List.lookup_cons] at e
    split at e
    · rename_i q
      rw [beq_iff_eq.mp q]
      exact hw
    · exact wk.why y e
end
def lamQ (d : DF) : Str := (envOfC d.qual d.scope 0 0 .none).qual ++ ("<lambda>" : Str)
/-- the law's own table -/
def lamT (K : PySem.W.Frag) (d : DF) : Toks := { Toks.nil with tbs := [((cTab K d).2, lamQ d)] }
theorem SaysW.codeHd {D : LD} {K : PySem.W.Frag} (cc : SaysW D K) {d : DF} (h : d ∈ D.lams) : PySem.W.codeHdIn K (cTab K d).1 (cTab K d).2 = true := by
  have ck := cc.chk.1
  unfold LD.chk at ck
  simp only [Bool.and_eq_true] at ck
  obtain ⟨_, _, _, _, _, _, _, _, _, _, _, _, k12⟩ := ck
  exact List.all_eq_true.mp k12 d h
/-- what the law's walk knows -/
structure LC (D : LD) (hi : anGood D.an = true) (K : PySem.W.Frag) (lv : Nat) (O : Orc) (good : Toks → Prop) (tbs : List (Addr × Str)) (N : List Str) (scope : Scope) (gt : List (Str × GK)) (X : Cx) (W : WX) : Prop where
  ok : ∀ t : Toks, t.tbs = tbs → good t → CSok ((D.T).at lv) (D.M hi K t) O ⟨N, scope, gt, D.an, true⟩ X W
  hsc : X.env.scope = scope
  hp : PassesOwn (model X.prog X.w) X.A X.env X.xe
  calm : X.calm = true
  N : X.N = N
theorem LC.ss {D : LD} {hi : anGood D.an = true} {K : PySem.W.Frag} {lv : Nat} {O : Orc} {good : Toks → Prop} {tbs : List (Addr × Str)} {N : List Str} {scope : Scope} {gt : List (Str × GK)} {X : Cx} {W : WX} (L : LC D hi K lv O good tbs N scope gt X W) {t : Toks} (h1 : t.tbs = tbs) (h2 : good t) {c m : Nat} {b : List Stmt} {xs : List St} (hc : cSs c m ⟨N, scope, gt, D.an, true⟩ b = some xs) (n : Nat) :
    PSs X b (tS (D.M hi K t) W fun s h => evB (evs ((D.T).at lv) O n).s xs s h) := soundS c m W X _ (L.ok t h1 h2) L.hsc L.hp b xs hc n
/-- a law that makes lambdas: what it makes of each script is True -/
theorem law_endL {l : PySem.W.OpenLaw} {D : LD} {n lv : Nat} {q : Program} {loose : List Str} {XP : (Str → Option Value) → Heap → Prop} {d : DefRec} {x px : Str} {O : Orc} {good : Toks → Prop} (nn : Nat) (hi : anGood D.an = true) (xb : XBs D) (hP : D.P = l.prog) (ht : (l.prog.main.scope.names.lookup ("super" : Str)).isSome = false)
    (hn : l.most = some n) (hn2 : n ≤ sizeLine) (hdf : d.params.defaults = []) (hr : Room (lv + 2) callerA) (hlv : 2 ≤ lv) (hrec : ((recsOf q).any fun e => e.name == d.name) = true)
    {i f0 : Nat} {df : DF} {gt : List (Str × GK)} {N : List Str} {y : WyD} {wp : FxP} (hd : D.fn[i]? = some df) (hp : D.fp.get f0 = some df.at_) (hat : df.at_ = .glo x) (hnm : d.name = x) (hgt : gt ∈ D.gts) (hgx : gt.lookup x = some (.fn f0)) (SC : FnScope N [px] df.scope) (Y : WyOk D gt y wp)
    (hdv : df.dfl = []) (hkw : df.kwd = [])
    (hb : ∀ (kV doc pm : Value) (an : Option Addr) (cdv ct : Value) (us : List Value), us.length = [px].length → bindArgs (PySem.W.fnOf df.name df.qual df.params df.body df.scope .none kV doc pm an cdv ct) ⟨us, []⟩ = pure ([px].zip us))
    (dok : ∀ (w : World) (K : PySem.W.Frag) (mg : Str → Option Value) (base h : Heap) (t : Toks), K.In h → h.Ns mainGlobals mg → SaysW D K → good t → ∀ f, D.T.lv f < lv → DOk l.prog w K mg base D.T (D.M hi K t) O f)
    (hcode : ∀ K, SaysW D K → PySem.W.codeHdIn K (cTab K df).1 (cTab K df).2 = true)
    (main : ∀ (K : PySem.W.Frag) (X : Cx) (W : WX), LC D hi K lv O good [((cTab K df).2, lamQ df)] N df.scope ((y.x, .why) :: gt) X W → ∀ (a : Addr) (ns : List Int) (H : Hp), ns.length ≤ n → (∃ o0 : Ob, (o0 = .frz (.lst (ns.map Va.int)) ∨ o0 = .lst (ns.map Va.int)) ∧ ∀ t : Toks, t.tbs = [((cTab K df).2, lamQ df)] → Emb (D.M hi K t) [a] (hZ o0) H) →
      ∀ Q : VK, (∀ H', Q (.bl true) H') → ∃ t, PSs X df.body t ∧ t { nx := fun _ H' => Q .non H', rt := Q } (L2.start N [.ref a]) H) :
    PySem.W.WalkO q loose XP (hookW nn D).says l.row.toRowW d [] (fun f vs => PySem.call f vs) := by
  refine Att.attach_callB hn hdf fun w s₀ s₁ mg mb fa o pm cd doc a vs ns G YY ho hdo hcd hmg hobj hints hlen hbits hg => ?_
  obtain ⟨K, KX, cc⟩ := YY
  obtain ⟨fd, F⟩ := cc.def_ hd
  have wk0 := D.wok (t := .nil) (w := w) (base := s₁.heap) (O := O) hi KX G.T.g cc xb hP ht hgt
  have ea : (D.M hi K .nil).fa f0 = df.at_.ad K := by
    show fpA K (D.fp.get f0) = _
    rw [hp]
    rfl
  have efa : fa = df.at_.ad K := by
    have e1 := (wk0.fn x f0 hgx).1
    rw [hnm] at hmg
    rw [hmg] at e1
    cases e1
    exact ea
  have e0 : df.dvs K = [] := by unfold DF.dvs; rw [hdv]; rfl
  have F2 := F
  rw [e0] at F2
  obtain ⟨oc, od, dV, kV, doc', pm', an', cdv, ct, osl, efd, lk, hcdv, hD, hK⟩ := id F.ex
  subst efd
  obtain ⟨c, ec⟩ := He.codeIn_ref hcdv
  have ect : cTab K df = (c, He.tabOf K c) := by
    unfold cTab
    rw [lk]
    show (match cdv with
      | .ref c => (c, He.tabOf K c)
      | _ => (0, 0)) = _
    rw [ec]
  have hcode := hcode K cc
  have hC : PySem.W.CodeHd s₁.heap (cTab K df).1 (cTab K df).2 := PySem.W.codeHd_of_K KX hcode
  -- the table is empty
  have hT : s₁.heap.get? (cTab K df).2 = some { cls := .none, data := .fields #[] } := by
    obtain ⟨dL, hm, hn1⟩ := List.any_eq_true.mp hrec
    have hn2 : dL.name = d.name := beq_iff_eq.mp hn1
    obtain ⟨a', o', fd', c', P', h1, h2, h3, h4, h5, h6⟩ := G.T.tab dL hm
    rw [hn2, hmg, efa] at h1
    cases h1
    have g1 := KX _ _ lk
    rw [g1] at h2
    cases h2
    cases h3
    have h4 : cdv = .ref c' := h4
    rw [ec] at h4
    cases h4
    obtain ⟨⟨oc2, vc, e1, _, e3, e4⟩, hP2⟩ := h6
    obtain ⟨o9, us9, file, tf, flags, tg, inF, text, tt, q1, q2, q3, q4, q5, _⟩ := hC
    rw [ect] at q1 q4 ⊢
    rw [e1] at q1
    cases q1
    rw [e3] at q3
    cases q3
    rw [e4] at q4
    cases q4
    exact hP2
  have wlk : K.lookup (cTab K df).2 = none := by
    cases e : K.lookup (cTab K df).2 with
    | none => rfl
    | some ob =>
      have ck := cc.chk.1
      unfold LD.chk at ck
      simp only [Bool.and_eq_true] at ck
      obtain ⟨_, _, _, _, _, _, _, _, _, k10, _, _⟩ := ck
      have z := KX _ _ e
      rw [hT] at z
      cases z
      have q := List.all_eq_true.mp k10 _ (sql_lst.lookup_memA e)
      rw [Bool.and_eq_true] at q
      have z : (!He.emptyTab { cls := .none, data := .fields #[] }) = true := q.2
      exact absurd z (by decide)
  have bd : ∀ (s : Shared) (u : Value), BindsTo s _ ⟨[u], []⟩ [(px, u)] := fun s u => FunD.bindsA F2 hb s [u] rfl
  have lamOk : ∀ (base : Heap), LamX.TabB base mg (cTab K df).1 (cTab K df).2 → ∀ (A : Around) (outer : List Env) (s : Shared) (H : Hp) (E : XK) (t : Toks), t.tbs = [((cTab K df).2, lamQ df)] → Room (lv + 1) (A.deeper (envOfC df.qual df.scope s.heap.objs.size (df.at_.ad K) cdv)) →
      LamOk ((D.T).at lv) (D.M hi K t) (cxOf (L2.CX l.prog w) l.prog w K mg base N df.qual df.scope (df.at_.ad K) cdv A outer s H E) := fun base TB A outer s H E t et hr => by
    refine ⟨⟨(cTab K df).1, (cTab K df).2, TB, ?_, ?_, fun p hp _ => ?_⟩, hr.mono (show lv - 1 + 2 ≤ lv + 1 by omega), hr.mono (by omega)⟩
    · rw [ect]
      exact ec
    · show _ ∈ t.tbs
      rw [et]
      exact List.mem_singleton.mpr rfl
    · have hp : p ∈ t.tbs := hp
      rw [et] at hp
      rw [List.mem_singleton.mp hp]
      rfl
  have fn : ∀ base : Heap, K.In base → base.Ns mainGlobals mg → LamX.TabB base mg (cTab K df).1 (cTab K df).2 → FnOk l.prog w K mg base (L2.CX l.prog w) (lv + 2) fa _ [px] (fun vs H Q E => ∃ (a : Addr) (ns : List Int), vs = [.ref a] ∧ ns.length ≤ n ∧ (∃ o0 : Ob, (o0 = .frz (.lst (ns.map Va.int)) ∨ o0 = .lst (ns.map Va.int)) ∧ ∀ t : Toks, t.tbs = [((cTab K df).2, lamQ df)] → Emb (D.M hi K t) [a] (hZ o0) H) ∧ ∀ H', Q (.bl true) H') := fun base KB GB TB => by
    rw [efa]
    refine fn_of lk hcdv SC (fun vs H Q E h => ?_) fun A outer s H vs Q E hr h => ?_
    · obtain ⟨a, ns, rfl, _⟩ := h
      rfl
    · obtain ⟨a, ns, rfl, hl, hem, hq⟩ := h
      have L : LC D hi K lv O good [((cTab K df).2, lamQ df)] N df.scope ((y.x, .why) :: gt) (cxOf (L2.CX l.prog w) l.prog w K mg base N df.qual df.scope (df.at_.ad K) cdv A outer s H E) (fun c d _ H' => E c d H') := by
        refine ⟨fun t et gt' => ?_, rfl, passes_of rfl, rfl, rfl⟩
        have wkt := D.wok (t := t) (w := w) (base := base) (O := O) hi KB GB cc xb hP ht hgt
        exact csok_of (lam := true) (lv := lv) (wok_why wkt (D.whyOk hi wkt cc Y)) SC (hr.mono (by omega)) (fun g hg => dok w K mg base base t KB GB cc gt' g hg) (fun _ => lamOk base TB A outer s H E t et hr)
      exact main K _ _ L a ns H hl hem Q hq
  exact LamX.law_callTs (cs := [cTab K df]) KX G.T.g G.T.b G.T.builtins G.T.nolimit hg (fun p hp => by rw [List.mem_singleton.mp hp]; exact hT) (fun p hp => by rw [List.mem_singleton.mp hp]; exact wlk) (fun p hp => by rw [List.mem_singleton.mp hp]; exact hC) G.T.bmain hobj hints (Nat.le_trans hlen hn2) hr
    (fun base KB GB TB => fn base KB GB (TB _ (List.mem_singleton.mpr rfl))) bd (fun H hH hS => by
      have ck := cc.chk.1
      unfold LD.chk at ck
      simp only [Bool.and_eq_true] at ck
      obtain ⟨_, _, _, _, _, _, _, _, _, k10, _, _⟩ := ck
      have rd := sql_lst (K := K) k10 hS
      obtain ⟨o0, e0, em⟩ := emb_script2 (M := D.M hi K .nil) rd
      refine ⟨a, ns, rfl, hlen, ⟨o0, e0, fun t et => em _ fun p hp => ?_⟩, fun _ => rfl⟩
      have hp : p ∈ t.tbs := hp
      rw [et] at hp
      rw [List.mem_singleton.mp hp]
      exact LamX.TabS.nil (hH _ (List.mem_singleton.mpr rfl))) fun H e s' z => by
      obtain ⟨_, _, _, _, _, _, _, _, _, _, _, _, z⟩ := z
      exact z.elim
end MP
set_option linter.all false
set_option maxRecDepth 100000
set_option maxHeartbeats 8000000
/-! The calls, is_name answered on drawn texts. -/
namespace MP
open PySem PySem.Spec PyProof.Rows L2 NdefX
def ovN (nm f : Nat) (us : List Va) : Bool := Nat.beq f nm && (match us with
  | [.tok _] => true
  | _ => false)
def OrN (D : LD) (nm k : Nat) : Orc := Nat.rec (fun _ _ _ => .no) (fun _ ih f us h => match ovN nm f us with
  | true => .ok (.bl true) h
  | false => (match D.fi.get f with
    | some x => runB D.T ih f fuelN x.slots x.body us h
    | none => .no)) k
end MP
set_option linter.all false
set_option maxRecDepth 100000
set_option maxHeartbeats 8000000
/-! The evaluator's equations, for readings by hand. -/
namespace MP
section
variable {T : Tb} {O : Orc} {n : Nat} {s : Fr} {h : Hv}
theorem ev_cst {v : Va} : (evs T O (n + 1)).e s (.cst v) h = .ok v h := rfl
theorem ev_var {i : Nat} : (evs T O (n + 1)).e s (.var i) h = getV s i h := rfl
theorem ev_bin {o : BO} {a b : Ex} : (evs T O (n + 1)).e s (.bin o a b) h = ((evs T O n).e s a h).bind fun x h1 => ((evs T O n).e s b h1).bind fun y h2 => opBin o x y h2 := rfl
theorem ev_cmp {o : CO} {a b : Ex} : (evs T O (n + 1)).e s (.cmp o a b) h = ((evs T O n).e s a h).bind fun x h1 => ((evs T O n).e s b h1).bind fun y h2 => bl (opCmp o x y h2) := rfl
theorem ev_idx {a b : Ex} : (evs T O (n + 1)).e s (.idx a b) h = ((evs T O n).e s a h).bind fun x h1 => ((evs T O n).e s b h1).bind fun y h2 => opIdx x y h2 := rfl
theorem ev_and {a b : Ex} : (evs T O (n + 1)).e s (.and a b) h = ((evs T O n).e s a h).bind fun x h1 => match x with
  | .bl true => (evs T O n).e s b h1
  | .bl false => .ok (.bl false) h1
  | _ => .no := rfl
theorem ev_blt {b : Bf} {es : List Ex} : (evs T O (n + 1)).e s (.blt b es) h = (evPs ((evs T O n).e s) es h).bind fun vs h1 => opBlt b vs h1 := rfl
theorem ev_call {f : Nat} {es : List Ex} : (evs T O (n + 1)).e s (.call f es) h = (evPs ((evs T O n).e s) es h).bind fun vs h1 => callF T O 0 f vs h1 := rfl
theorem ev_lst {es : List (Bool × Ex)} : (evs T O (n + 1)).e s (.lst es) h = (evAs ((evs T O n).e s) es h).bind fun xs h1 => gd (Nat.ble xs.length Bnd) (newOb (.lst xs) h1) := rfl
theorem ev_tup {es : List (Bool × Ex)} : (evs T O (n + 1)).e s (.tup es) h = (evAs ((evs T O n).e s) es h).bind fun xs h1 => gd (Nat.ble xs.length Bnd) (newOb (.tup xs) h1) := rfl
theorem ev_slc {a : Ex} {lo hi : Option Ex} : (evs T O (n + 1)).e s (.slc a lo hi) h = ((evs T O n).e s a h).bind fun x h1 => (evO ((evs T O n).e s) lo h1).bind fun l h2 => (evO ((evs T O n).e s) hi h2).bind fun u h3 => opSlc x l u h3 := rfl
theorem et_val {a : Ex} : (evs T O (n + 1)).t s (.val a) h = ((evs T O n).e s a h).bind fun v h1 => truth v h1 := rfl
theorem et_and {a b : Ex} : (evs T O (n + 1)).t s (.and a b) h = ((evs T O n).t s a h).bind fun k h1 => match k with
  | true => (evs T O n).t s b h1
  | false => .ok false h1 := rfl
theorem et_or {a b : Ex} : (evs T O (n + 1)).t s (.or a b) h = ((evs T O n).t s a h).bind fun k h1 => match k with
  | true => .ok true h1
  | false => (evs T O n).t s b h1 := rfl
theorem et_not {a : Ex} : (evs T O (n + 1)).t s (.not a) h = ((evs T O n).t s a h).bind fun b h1 => .ok (!b) h1 := rfl
theorem es_asg {t : Tg} {e : Ex} : (evs T O (n + 1)).s s (.asg t e) h = ((evs T O n).e s e h).st s fun v h1 => asgT (evs T O n).e T O t v s h1 := rfl
theorem es_iff {c : Ex} {a b : List St} : (evs T O (n + 1)).s s (.iff c a b) h = ((evs T O n).t s c h).st s fun k h1 => match k with
  | true => evB (evs T O n).s a s h1
  | false => evB (evs T O n).s b s h1 := rfl
theorem es_ret {e : Ex} : (evs T O (n + 1)).s s (.ret e) h = ((evs T O n).e s e h).st s fun v h1 => .rt v h1 := rfl
theorem es_exp {e : Ex} : (evs T O (n + 1)).s s (.exp e) h = ((evs T O n).e s e h).st s fun _ h1 => .nx s h1 := rfl
theorem evB_nil {ev : Fr → St → Hv → RS} : evB ev [] s h = .nx s h := rfl
theorem evB_cons {ev : Fr → St → Hv → RS} {x : St} {r : List St} : evB ev (x :: r) s h = (ev s x h).nxt fun s1 h1 => evB ev r s1 h1 := rfl
theorem nxt_nx {k : Fr → Hv → RS} : (RS.nx s h).nxt k = k s h := rfl
theorem nxt_rt {v : Va} {k : Fr → Hv → RS} : (RS.rt v h).nxt k = .rt v h := rfl
theorem st_ok {α : Type} {a : α} {k : α → Hv → RS} : (Rs.ok a h).st s k = k a h := rfl
theorem bind_ok' {α β : Type} {a : α} {k : α → Hv → Rs β} : (Rs.ok a h).bind k = k a h := rfl
theorem getV_0 {v : Va} : getV (some v :: s) 0 h = .ok v h := rfl
theorem getV_s {x : Option Va} {i : Nat} : getV (x :: s) (i + 1) h = getV s i h := rfl
theorem evPs_nil {ev : Ex → Hv → Rs Va} : evPs ev [] h = .ok [] h := rfl
theorem evPs_cons {ev : Ex → Hv → Rs Va} {x : Ex} {r : List Ex} : evPs ev (x :: r) h = (ev x h).bind fun v h1 => (evPs ev r h1).bind fun ys h2 => .ok (v :: ys) h2 := rfl
theorem asgT_var {i : Nat} {v : Va} {ev : EvE} : asgT ev T O (.var i) v s h = .nx (s.set i (some v)) h := rfl
theorem asgT_sub {a b : Ex} {v : Va} {ev : EvE} : asgT ev T O (.sub a b) v s h = (ev s a h).st s fun x h1 => (ev s b h1).st s fun i h2 => setI v x i s h2 := rfl
theorem bl_ok {b : Bool} : bl (.ok b h) = .ok (.bl b) h := rfl
theorem truth_bl {b : Bool} : truth (.bl b) h = .ok b h := rfl
theorem eq_int {i j : Int} : opCmp .eq (.int i) (.int j) h = .ok (decide (i = j)) h := rfl
theorem lt_int {i j : Int} : opCmp .lt (.int i) (.int j) h = .ok (decide (i < j)) h := rfl
theorem gt_int {i j : Int} : opCmp .gt (.int i) (.int j) h = .ok (decide (j < i)) h := rfl
theorem ge_int {i j : Int} : opCmp .ge (.int i) (.int j) h = .ok (decide (j ≤ i)) h := rfl
theorem add_int {i j : Int} : opBin .add (.int i) (.int j) h = .ok (.int (i + j)) h := rfl
theorem sub_int {i j : Int} : opBin .sub (.int i) (.int j) h = .ok (.int (i - j)) h := rfl
theorem mul_int {i j : Int} : opBin .mul (.int i) (.int j) h = gd (i64 i || i64 j) (.ok (.int (i * j)) h) := rfl
theorem mod_int {i j : Int} : opBin .mod (.int i) (.int j) h = gd (decide (j ≠ 0)) (.ok (.int (i.fmod j)) h) := rfl
theorem fdv_int {i j : Int} : opBin .fdv (.int i) (.int j) h = gd (decide (j ≠ 0) && decide (j.natAbs < 1073741824)) (.ok (.int (i.fdiv j)) h) := rfl
theorem gd_true {α : Type} {r : Rs α} : gd true r = r := rfl
theorem int_int {i : Int} : opBlt .int [.int i] h = .ok (.int i) h := rfl
theorem idx_lst {a : Nat} {xs : List Va} {i : Int} (e : h.rd a = some (.lst xs)) : opIdx (.ref a) (.int i) h = toV (getO xs (ixO xs.length i)) h := by
  unfold opIdx
  dsimp only
  rw [e]
theorem len_lst {a : Nat} {xs : List Va} (e : h.rd a = some (.lst xs)) : opBlt .len [.ref a] h = .ok (.int xs.length) h := by
  show bLen h (.ref a) = _
  unfold bLen
  dsimp only
  rw [e]
theorem set_lst {a : Nat} {xs : List Va} {i : Int} {j : Nat} {v : Va} (e : h.get a = some (.lst xs)) (k : ixO xs.length i = some j) : setI v (.ref a) (.int i) s h = .nx s (h.set a (.lst (xs.set j v))) := by
  unfold setI
  dsimp only
  rw [e]
  dsimp only
  rw [k]
theorem rd_of_lst {a : Nat} {xs : List Va} (e : h.get a = some (.lst xs)) : h.rd a = some (.lst xs) := by
  unfold Hv.rd
  rw [e]
  rfl
theorem get_set_same {a : Nat} {o : Ob} : (h.set a o).get a = some o := by
  rw [Hv.get_set, if_pos rfl]
theorem get_set_ne {a b : Nat} {o : Ob} (ne : b ≠ a) : (h.set a o).get b = h.get b := by
  rw [Hv.get_set, if_neg ne]
theorem rd_set_ne {a b : Nat} {o : Ob} (ne : b ≠ a) : (h.set a o).rd b = h.rd b := by
  unfold Hv.rd
  rw [get_set_ne ne]
end
/-- two stores at one place -/
theorem Tr.put_put (o o2 : Option Ob) : ∀ (n m : Nat) (t : Tr) (k : Nat), k < n → k < m → (t.put o n k).put o2 m k = t.put o2 m k
  | 0, _, _, _, h, _ => absurd h (Nat.not_lt_zero _)
  | _ + 1, 0, _, _, _, h => absurd h (Nat.not_lt_zero _)
  | n + 1, m + 1, t, 0, _, _ => by
    cases t <;> rfl
  | n + 1, m + 1, t, j + 1, h1, h2 => by
    have k1 : j / 2 < n := by omega
    have k2 : j / 2 < m := by omega
    cases t with
    | nil =>
      show Tr.put o2 (m + 1) (match Nat.beq (j % 2) 0 with
        | true => .nd none (Tr.put o n .nil (j / 2)) .nil
        | false => .nd none .nil (Tr.put o n .nil (j / 2))) (j + 1) = (match Nat.beq (j % 2) 0 with
        | true => .nd none (Tr.put o2 m .nil (j / 2)) .nil
        | false => .nd none .nil (Tr.put o2 m .nil (j / 2)))
      cases e : Nat.beq (j % 2) 0 with
      | true =>
        show (match Nat.beq (j % 2) 0 with
          | true => Tr.nd none (Tr.put o2 m (Tr.put o n .nil (j / 2)) (j / 2)) .nil
          | false => Tr.nd none (Tr.put o n .nil (j / 2)) (Tr.put o2 m .nil (j / 2))) = _
        rw [e]
        show Tr.nd none (Tr.put o2 m (Tr.put o n .nil (j / 2)) (j / 2)) .nil = _
        rw [Tr.put_put o o2 n m .nil (j / 2) k1 k2]
      | false =>
        show (match Nat.beq (j % 2) 0 with
          | true => Tr.nd none (Tr.put o2 m .nil (j / 2)) (Tr.put o n .nil (j / 2))
          | false => Tr.nd none .nil (Tr.put o2 m (Tr.put o n .nil (j / 2)) (j / 2))) = _
        rw [e]
        show Tr.nd none .nil (Tr.put o2 m (Tr.put o n .nil (j / 2)) (j / 2)) = _
        rw [Tr.put_put o o2 n m .nil (j / 2) k1 k2]
    | nd p l r =>
      show Tr.put o2 (m + 1) (match Nat.beq (j % 2) 0 with
        | true => .nd p (Tr.put o n l (j / 2)) r
        | false => .nd p l (Tr.put o n r (j / 2))) (j + 1) = (match Nat.beq (j % 2) 0 with
        | true => .nd p (Tr.put o2 m l (j / 2)) r
        | false => .nd p l (Tr.put o2 m r (j / 2)))
      cases e : Nat.beq (j % 2) 0 with
      | true =>
        show (match Nat.beq (j % 2) 0 with
          | true => Tr.nd p (Tr.put o2 m (Tr.put o n l (j / 2)) (j / 2)) r
          | false => Tr.nd p (Tr.put o n l (j / 2)) (Tr.put o2 m r (j / 2))) = _
        rw [e]
        show Tr.nd p (Tr.put o2 m (Tr.put o n l (j / 2)) (j / 2)) r = _
        rw [Tr.put_put o o2 n m l (j / 2) k1 k2]
      | false =>
        show (match Nat.beq (j % 2) 0 with
          | true => Tr.nd p (Tr.put o2 m l (j / 2)) (Tr.put o n r (j / 2))
          | false => Tr.nd p l (Tr.put o2 m (Tr.put o n r (j / 2)) (j / 2))) = _
        rw [e]
        show Tr.nd p l (Tr.put o2 m (Tr.put o n r (j / 2)) (j / 2)) = _
        rw [Tr.put_put o o2 n m r (j / 2) k1 k2]
theorem set_set {h : Hv} {a : Nat} {o o2 : Ob} : (h.set a o).set a o2 = h.set a o2 := by
  show Hv.mk _ _ = Hv.mk _ _
  rw [show (h.set a o).t = h.t.put (some o) (a + 1) a from rfl, Tr.put_put _ _ _ _ _ _ (Nat.lt_succ_self _) (Nat.lt_succ_self _)]
  rfl
end MP
set_option linter.all false
set_option maxRecDepth 100000
set_option maxHeartbeats 8000000
/-! The draws. -/
namespace MP
def pullB : List St := [St.iff
   (Ex.and
     (Ex.val
       (Ex.cmp
         (CO.eq)
         (Ex.idx (Ex.var 0) (Ex.cst (Va.int (Int.ofNat 2))))
         (Ex.cst (Va.int (Int.ofNat 0)))))
     (Ex.val
       (Ex.cmp
         (CO.lt)
         (Ex.idx (Ex.var 0) (Ex.cst (Va.int (Int.ofNat 1))))
         (Ex.lenI (Ex.idx (Ex.var 0) (Ex.cst (Va.int (Int.ofNat 0))))))))
   [St.asg
      (Tg.var 2)
      (Ex.idx
        (Ex.idx (Ex.var 0) (Ex.cst (Va.int (Int.ofNat 0))))
        (Ex.idx (Ex.var 0) (Ex.cst (Va.int (Int.ofNat 1))))),
    St.asg
      (Tg.sub (Ex.var 0) (Ex.cst (Va.int (Int.ofNat 1))))
      (Ex.bin
        (BO.add)
        (Ex.idx (Ex.var 0) (Ex.cst (Va.int (Int.ofNat 1))))
        (Ex.cst (Va.int (Int.ofNat 1)))),
    St.iff
      (Ex.val
        (Ex.cmp
          (CO.ge)
          (Ex.var 2)
          (Ex.bin (BO.pow) (Ex.cst (Va.int (Int.ofNat 10))) (Ex.cst (Va.int (Int.ofNat 18))))))
      [St.asg (Tg.sub (Ex.var 0) (Ex.cst (Va.int (Int.ofNat 2)))) (Ex.var 2)]
      [St.asg
         (Tg.sub (Ex.var 0) (Ex.cst (Va.int (Int.ofNat 3))))
         (Ex.bin
           (BO.mod)
           (Ex.blt
             (Bf.int)
             [Ex.bin
                (BO.add)
                (Ex.bin
                  (BO.add)
                  (Ex.bin
                    (BO.mul)
                    (Ex.idx (Ex.var 0) (Ex.cst (Va.int (Int.ofNat 3))))
                    (Ex.cst (Va.int (Int.ofNat 48761))))
                  (Ex.bin
                    (BO.mul)
                    (Ex.bin
                      (BO.mod)
                      (Ex.blt (Bf.int) [Ex.var 2])
                      (Ex.cst (Va.int (Int.ofNat 2147483549))))
                    (Ex.cst (Va.int (Int.ofNat 62971)))))
                (Ex.cst (Va.int (Int.ofNat 29)))])
           (Ex.cst (Va.int (Int.ofNat 2147483629))))]]
   [],
 St.iff
   (Ex.val
     (Ex.cmp
       (CO.gt)
       (Ex.idx (Ex.var 0) (Ex.cst (Va.int (Int.ofNat 2))))
       (Ex.cst (Va.int (Int.ofNat 0)))))
   [St.asg
      (Tg.var 3)
      (Ex.bin
        (BO.mod)
        (Ex.blt (Bf.int) [Ex.idx (Ex.var 0) (Ex.cst (Va.int (Int.ofNat 2)))])
        (Ex.var 1)),
    St.asg
      (Tg.sub (Ex.var 0) (Ex.cst (Va.int (Int.ofNat 2))))
      (Ex.bin (BO.fdv) (Ex.idx (Ex.var 0) (Ex.cst (Va.int (Int.ofNat 2)))) (Ex.var 1)),
    St.ret (Ex.var 3)]
   [],
 St.asg
   (Tg.sub (Ex.var 0) (Ex.cst (Va.int (Int.ofNat 4))))
   (Ex.bin
     (BO.add)
     (Ex.idx (Ex.var 0) (Ex.cst (Va.int (Int.ofNat 4))))
     (Ex.cst (Va.int (Int.ofNat 1)))),
 St.asg (Tg.var 4) (Ex.idx (Ex.var 0) (Ex.cst (Va.int (Int.ofNat 3)))),
 St.asg
   (Tg.sub (Ex.var 0) (Ex.cst (Va.int (Int.ofNat 3))))
   (Ex.bin
     (BO.mod)
     (Ex.blt
       (Bf.int)
       [Ex.bin
          (BO.add)
          (Ex.bin
            (BO.add)
            (Ex.bin
              (BO.add)
              (Ex.bin (BO.mul) (Ex.var 4) (Ex.var 4))
              (Ex.bin (BO.mul) (Ex.var 4) (Ex.cst (Va.int (Int.ofNat 30011)))))
            (Ex.bin
              (BO.mul)
              (Ex.idx (Ex.var 0) (Ex.cst (Va.int (Int.ofNat 4))))
              (Ex.cst (Va.int (Int.ofNat 1300021)))))
          (Ex.cst (Va.int (Int.ofNat 77777)))])
     (Ex.cst (Va.int (Int.ofNat 2147483629)))),
 St.ret
   (Ex.bin
     (BO.mod)
     (Ex.blt
       (Bf.int)
       [Ex.bin
          (BO.add)
          (Ex.bin
            (BO.fdv)
            (Ex.idx (Ex.var 0) (Ex.cst (Va.int (Int.ofNat 3))))
            (Ex.cst (Va.int (Int.ofNat 79))))
          (Ex.bin
            (BO.mul)
            (Ex.bin
              (BO.mod)
              (Ex.blt (Bf.int) [Ex.idx (Ex.var 0) (Ex.cst (Va.int (Int.ofNat 3)))])
              (Ex.cst (Va.int (Int.ofNat 8087))))
            (Ex.cst (Va.int (Int.ofNat 53))))])
     (Ex.var 1))]
section
variable {T : Tb} {O : Orc} {f n : Nat} {h : Hv} {p q : Nat} {x0 x1 x2 x3 x4 v : Va} {s : Fr}
theorem ev_lenI0 {T : Tb} {O : Orc} {a : Ex} : (evs T O (n + 1)).e s (.lenI a) h = ((evs T O n).e s a h).bind fun x h1 => vLenI T O x h1 := rfl
theorem lenI_lst {T : Tb} {O : Orc} {a : Nat} {xs : List Va} (e : h.rd a = some (.lst xs)) : vLenI T O (.ref a) h = .ok (.int xs.length) h := by
  have hb : bLen h (.ref a) = .ok (.int xs.length) h := by
    unfold bLen
    dsimp only
    rw [e]
  unfold vLenI
  dsimp only
  split
  · rename_i c fs k
    unfold Hv.rd at e
    rw [k] at e
    cases e
  · exact hb
theorem bg0 (e : h.get p = some (.lst [x0, x1, x2, x3, x4])) : opIdx (.ref p) (.int (Int.ofNat 0)) h = .ok x0 h := (idx_lst (rd_of_lst e)).trans rfl
theorem bg1 (e : h.get p = some (.lst [x0, x1, x2, x3, x4])) : opIdx (.ref p) (.int (Int.ofNat 1)) h = .ok x1 h := (idx_lst (rd_of_lst e)).trans rfl
theorem bg2 (e : h.get p = some (.lst [x0, x1, x2, x3, x4])) : opIdx (.ref p) (.int (Int.ofNat 2)) h = .ok x2 h := (idx_lst (rd_of_lst e)).trans rfl
theorem bg3 (e : h.get p = some (.lst [x0, x1, x2, x3, x4])) : opIdx (.ref p) (.int (Int.ofNat 3)) h = .ok x3 h := (idx_lst (rd_of_lst e)).trans rfl
theorem bg4 (e : h.get p = some (.lst [x0, x1, x2, x3, x4])) : opIdx (.ref p) (.int (Int.ofNat 4)) h = .ok x4 h := (idx_lst (rd_of_lst e)).trans rfl
theorem bs1 (e : h.get p = some (.lst [x0, x1, x2, x3, x4])) : setI v (.ref p) (.int (Int.ofNat 1)) s h = .nx s (h.set p (.lst [x0, v, x2, x3, x4])) := (set_lst (j := 1) e rfl).trans rfl
theorem bs2 (e : h.get p = some (.lst [x0, x1, x2, x3, x4])) : setI v (.ref p) (.int (Int.ofNat 2)) s h = .nx s (h.set p (.lst [x0, x1, v, x3, x4])) := (set_lst (j := 2) e rfl).trans rfl
theorem bs3 (e : h.get p = some (.lst [x0, x1, x2, x3, x4])) : setI v (.ref p) (.int (Int.ofNat 3)) s h = .nx s (h.set p (.lst [x0, x1, x2, v, x4])) := (set_lst (j := 3) e rfl).trans rfl
theorem bs4 (e : h.get p = some (.lst [x0, x1, x2, x3, x4])) : setI v (.ref p) (.int (Int.ofNat 4)) s h = .nx s (h.set p (.lst [x0, x1, x2, x3, v])) := (set_lst (j := 4) e rfl).trans rfl
theorem bgs3 : opIdx (.ref p) (.int (Int.ofNat 3)) (h.set p (.lst [x0, x1, x2, x3, x4])) = .ok x3 (h.set p (.lst [x0, x1, x2, x3, x4])) := bg3 get_set_same
theorem bgs2 : opIdx (.ref p) (.int (Int.ofNat 2)) (h.set p (.lst [x0, x1, x2, x3, x4])) = .ok x2 (h.set p (.lst [x0, x1, x2, x3, x4])) := bg2 get_set_same
theorem bgs4 : opIdx (.ref p) (.int (Int.ofNat 4)) (h.set p (.lst [x0, x1, x2, x3, x4])) = .ok x4 (h.set p (.lst [x0, x1, x2, x3, x4])) := bg4 get_set_same
theorem bss3 : setI v (.ref p) (.int (Int.ofNat 3)) s (h.set p (.lst [x0, x1, x2, x3, x4])) = .nx s (h.set p (.lst [x0, x1, x2, v, x4])) := by
  rw [bs3 get_set_same, set_set]
theorem bss2 : setI v (.ref p) (.int (Int.ofNat 2)) s (h.set p (.lst [x0, x1, x2, x3, x4])) = .nx s (h.set p (.lst [x0, x1, v, x3, x4])) := by
  rw [bs2 get_set_same, set_set]
theorem dz1 : decide ((Int.ofNat 2147483629) ≠ 0) = true := by decide
theorem dz2 : decide ((Int.ofNat 2147483549) ≠ 0) = true := by decide
theorem dz3 : decide ((Int.ofNat 8087) ≠ 0) = true := by decide
theorem dz4 : (decide ((Int.ofNat 79) ≠ 0) && decide ((Int.ofNat 79).natAbs < 1073741824)) = true := by decide
theorem dm1 {a : Int} : (i64 a || i64 (Int.ofNat 1300021)) = true := by rw [show i64 (Int.ofNat 1300021) = true by decide, Bool.or_true]
theorem dm2 {a : Int} : (i64 a || i64 (Int.ofNat 30011)) = true := by rw [show i64 (Int.ofNat 30011) = true by decide, Bool.or_true]
theorem dm3 {a : Int} : (i64 a || i64 (Int.ofNat 53)) = true := by rw [show i64 (Int.ofNat 53) = true by decide, Bool.or_true]
theorem dm4 {a : Int} : (i64 a || i64 (Int.ofNat 62971)) = true := by rw [show i64 (Int.ofNat 62971) = true by decide, Bool.or_true]
theorem dm5 {a : Int} : (i64 a || i64 (Int.ofNat 48761)) = true := by rw [show i64 (Int.ofNat 48761) = true by decide, Bool.or_true]
theorem fm_pos {a b : Int} (h : 0 < b) : 0 ≤ a.fmod b ∧ a.fmod b < b := ⟨Int.fmod_nonneg_of_pos _ h, Int.fmod_lt_of_pos _ h⟩
/-- the second half -/
def pullT : List St := pullB.drop 1
def pullH : St := pullB.headD .pass
theorem i64_of {a : Int} (h : -1000000000000 ≤ a ∧ a ≤ 1000000000000) : i64 a = true := by
  unfold i64
  rw [Bool.and_eq_true, decide_eq_true_eq, decide_eq_true_eq]
  omega
theorem tail_ok {i : Nat} {g z t m : Int} {y2 y3 y4 : Option Va} (hp : h.get p = some (.lst [.ref q, .int i, .int g, .int z, .int t])) (hg : 0 ≤ g) (hz : 0 ≤ z ∧ z < 2147483629) (hm : 0 < m ∧ m < 1073741824) :
    ∃ (g' z' t' r : Int), endOf (evB (evs T O (n + 29)).s pullT [some (.ref p), some (.int m), y2, y3, y4] h) = .ok (.int r) (h.set p (.lst [.ref q, .int i, .int g', .int z', .int t'])) ∧ 0 ≤ g' ∧ 0 ≤ z' ∧ z' < 2147483629 ∧ 0 ≤ r ∧ r < m := by
  have hm0 : decide (m ≠ 0) = true := decide_eq_true (by omega)
  have hmf : decide (m.natAbs < 1073741824) = true := decide_eq_true (by omega)
  by_cases hgp : 0 < g
  · refine ⟨g.fdiv m, z, t, g.fmod m, ?_, Int.fdiv_nonneg hg (by omega), hz.1, hz.2, Int.fmod_nonneg_of_pos _ hm.1, Int.fmod_lt_of_pos _ hm.1⟩
    show endOf (evB (evs T O (n + 29)).s (_ :: _) _ h) = _
    simp only [evB_cons, es_iff, et_val, ev_cmp, ev_idx, ev_var, ev_cst, getV_0, getV_s, bind_ok', bg2 hp, gt_int, bl_ok, truth_bl, st_ok, decide_eq_true (show (Int.ofNat 0) < g from hgp), es_asg, ev_bin, ev_blt, evPs_cons, evPs_nil, int_int, mod_int, hm0, gd_true, asgT_var, nxt_nx, List.set_cons_succ, List.set_cons_zero, fdv_int, hmf, Bool.and_self, asgT_sub, bs2 hp, es_ret, nxt_rt]
    rfl
  · have hg0 : g = 0 := by omega
    subst hg0
    have hz64 : i64 z = true := i64_of (by omega)
    have hzz : (i64 z || i64 z) = true := by rw [hz64]; rfl
    show ∃ (g' z' t' r : Int), endOf (evB (evs T O (n + 29)).s (_ :: _) _ h) = _ ∧ _
    simp only [evB_cons, es_iff, et_val, ev_cmp, ev_idx, ev_var, ev_cst, getV_0, getV_s, bind_ok', bg2 hp, bg4 hp, bgs3, bgs4, bss3, bs4 hp, gt_int, bl_ok, truth_bl, st_ok, decide_eq_false (show ¬ ((Int.ofNat 0) < (0 : Int)) by decide), es_asg, ev_bin, ev_blt, evPs_cons, evPs_nil, int_int, add_int, mul_int, mod_int, hm0, gd_true, asgT_var, nxt_nx, List.set_cons_succ, List.set_cons_zero, fdv_int, hmf, Bool.and_self, asgT_sub, bs2 hp, es_ret, nxt_rt, evB_nil, hzz, dz1, dz2, dz3, dz4, dm1, dm2, dm3]
    refine ⟨_, _, _, _, rfl, Int.le_refl _, (fm_pos (by decide)).1, (fm_pos (by decide)).2, (fm_pos hm.1).1, (fm_pos hm.1).2⟩
theorem ix_ok {A : List Int} {i : Nat} (h : i < A.length) : getO (A.map Va.int) (ixO (A.map Va.int).length (i : Int)) = some (.int (A[i]'h)) := by
  show getO (A.map Va.int) (match Nat.blt i (A.map Va.int).length with
    | true => some i
    | false => none) = _
  rw [show Nat.blt i (A.map Va.int).length = true from Nat.ble_eq_true_of_le (by rw [List.length_map]; exact h)]
  show (A.map Va.int)[i]? = _
  rw [List.getElem?_map, List.getElem?_eq_getElem h]
  rfl
/-- a draw -/
theorem pull_ok {A : List Int} {i : Nat} {g z t m : Int} (hp : h.get p = some (.lst [.ref q, .int i, .int g, .int z, .int t])) (hq : h.rd q = some (.lst (A.map Va.int))) (ne : q ≠ p) (hi : i ≤ A.length) (hg : 0 ≤ g) (hz : 0 ≤ z ∧ z < 2147483629) (hm : 0 < m ∧ m < 1073741824) :
    ∃ (i' : Nat) (g' z' t' r : Int), runB T O f (n + 29) 5 pullB [.ref p, .int m] h = .ok (.int r) (h.set p (.lst [.ref q, .int i', .int g', .int z', .int t'])) ∧ i' ≤ A.length ∧ 0 ≤ g' ∧ 0 ≤ z' ∧ z' < 2147483629 ∧ 0 ≤ r ∧ r < m := by
  have e0 : ∀ {y2 : Option Va} {h' : Hv}, (evs (T.at (T.lv f)) O (n + 29)).s (frame0 5 [.ref p, .int m]) pullH h = .nx [some (.ref p), some (.int m), y2, none, none] h' → runB T O f (n + 29) 5 pullB [.ref p, .int m] h = endOf (evB (evs (T.at (T.lv f)) O (n + 29)).s pullT [some (.ref p), some (.int m), y2, none, none] h') := fun {y2 h'} e => by
    show endOf (((evs (T.at (T.lv f)) O (n + 29)).s (frame0 5 [.ref p, .int m]) pullH h).nxt fun s1 h1 => evB (evs (T.at (T.lv f)) O (n + 29)).s pullT s1 h1) = _
    rw [e]
    rfl
  have f0 : frame0 5 [.ref p, .int m] = [some (.ref p), some (.int m), none, none, none] := rfl
  rw [f0] at e0
  by_cases c1 : g = 0 ∧ i < A.length
  · obtain ⟨rfl, hl⟩ := c1
    have lt : decide (((i : Nat) : Int) < (((A.map Va.int).length : Nat) : Int)) = true := decide_eq_true (by rw [List.length_map]; exact Int.ofNat_lt.mpr hl)
    have pw : (Int.ofNat 10) ^ (Int.ofNat 18).toNat = 1000000000000000000 := by decide
    have cell := ix_ok hl
    have e1 : (evs (T.at (T.lv f)) O (n + 29)).s [some (.ref p), some (.int m), none, none, none] pullH h = (match decide (1000000000000000000 ≤ A[i]) with
      | true => .nx [some (.ref p), some (.int m), some (.int A[i]), none, none] (h.set p (.lst [.ref q, .int ((i : Int) + 1), .int A[i], .int z, .int t]))
      | false => .nx [some (.ref p), some (.int m), some (.int A[i]), none, none] (h.set p (.lst [.ref q, .int ((i : Int) + 1), .int 0, .int ((z * Int.ofNat 48761 + (A[i]).fmod (Int.ofNat 2147483549) * Int.ofNat 62971 + Int.ofNat 29).fmod (Int.ofNat 2147483629)), .int t]))) := by
      show (evs (T.at (T.lv f)) O (n + 28 + 1)).s _ (.iff _ _ _) h = _
      have op : opBin .pow (.int (Int.ofNat 10)) (.int (Int.ofNat 18)) (h.set p (.lst [.ref q, .int ((i : Int) + Int.ofNat 1), .int 0, .int z, .int t])) = .ok (.int 1000000000000000000) (h.set p (.lst [.ref q, .int ((i : Int) + Int.ofNat 1), .int 0, .int z, .int t])) := rfl
      have ep : ∀ {s : Fr} {hh : Hv} {k : Nat}, (evs (T.at (T.lv f)) O (k + 1)).e s (.bin .pow (.cst (.int (Int.ofNat 10))) (.cst (.int (Int.ofNat 18)))) hh = ((evs (T.at (T.lv f)) O k).e s (.cst (.int (Int.ofNat 10))) hh).bind fun x h1 => ((evs (T.at (T.lv f)) O k).e s (.cst (.int (Int.ofNat 18))) h1).bind fun y h2 => opBin .pow x y h2 := rfl
      simp only [es_iff, et_and, et_val, ev_cmp, ev_idx, ev_var, ev_cst, getV_0, getV_s, bind_ok', bg2 hp, bg1 hp, bg0 hp, eq_int, bl_ok, truth_bl, st_ok, decide_eq_true (show (0 : Int) = Int.ofNat 0 from rfl), ev_blt, evPs_cons, evPs_nil, ev_lenI0, lenI_lst hq, lt_int, lt, evB_cons, evB_nil, es_asg, asgT_var, List.set_cons_succ, List.set_cons_zero, nxt_nx, idx_lst hq, cell, toV, asgT_sub, ev_bin, add_int, bs1 hp, ge_int, op, mul_int, mod_int, int_int, dm4, dm5, gd_true, dz1, dz2, bss2, bss3, bgs3]
      cases decide (1000000000000000000 ≤ A[i]) <;> rfl
    cases c : decide (1000000000000000000 ≤ A[i]) with
    | true =>
      rw [c] at e1
      have c := of_decide_eq_true c
      obtain ⟨g', z', t', r, k1, k2⟩ := tail_ok (T := T.at (T.lv f)) (O := O) (n := n) (q := q) (i := i + 1) (m := m) (y2 := some (.int A[i])) (y3 := none) (y4 := none) (h := h.set p (.lst [.ref q, .int ((i : Int) + 1), .int A[i], .int z, .int t])) get_set_same (by omega) hz hm
      rw [set_set] at k1
      exact ⟨i + 1, g', z', t', r, (e0 e1).trans k1, hl, k2⟩
    | false =>
      rw [c] at e1
      obtain ⟨g', z', t', r, k1, k2⟩ := tail_ok (T := T.at (T.lv f)) (O := O) (n := n) (q := q) (i := i + 1) (m := m) (y2 := some (.int A[i])) (y3 := none) (y4 := none) (h := h.set p (.lst [.ref q, .int ((i : Int) + 1), .int 0, .int ((z * Int.ofNat 48761 + (A[i]).fmod (Int.ofNat 2147483549) * Int.ofNat 62971 + Int.ofNat 29).fmod (Int.ofNat 2147483629)), .int t])) get_set_same (Int.le_refl _) (fm_pos (by decide)) hm
      rw [set_set] at k1
      exact ⟨i + 1, g', z', t', r, (e0 e1).trans k1, hl, k2⟩
  · have e1 : (evs (T.at (T.lv f)) O (n + 29)).s [some (.ref p), some (.int m), none, none, none] pullH h = .nx [some (.ref p), some (.int m), none, none, none] h := by
      show (evs (T.at (T.lv f)) O (n + 28 + 1)).s _ (.iff _ _ _) h = _
      by_cases hg0 : g = 0
      · subst hg0
        have lt : decide (((i : Nat) : Int) < (((A.map Va.int).length : Nat) : Int)) = false := decide_eq_false (by rw [List.length_map]; intro z; exact c1 ⟨rfl, Int.ofNat_lt.mp z⟩)
        simp only [es_iff, et_and, et_val, ev_cmp, ev_idx, ev_var, ev_cst, getV_0, getV_s, bind_ok', bg2 hp, bg1 hp, bg0 hp, eq_int, bl_ok, truth_bl, st_ok, decide_eq_true (show (0 : Int) = Int.ofNat 0 from rfl), ev_blt, evPs_cons, evPs_nil, ev_lenI0, lenI_lst hq, lt_int, lt, evB_nil]
      · simp only [es_iff, et_and, et_val, ev_cmp, ev_idx, ev_var, ev_cst, getV_0, getV_s, bind_ok', bg2 hp, eq_int, bl_ok, truth_bl, st_ok, decide_eq_false (show ¬ g = Int.ofNat 0 from hg0), evB_nil]
    obtain ⟨g', z', t', r, k1, k2⟩ := tail_ok (T := T.at (T.lv f)) (O := O) (n := n) (q := q) (i := i) (m := m) (y2 := none) (y3 := none) (y4 := none) hp hg hz hm
    exact ⟨i, g', z', t', r, (e0 e1).trans k1, hi, k2⟩
end
end MP
set_option linter.all false
set_option maxRecDepth 100000
set_option maxHeartbeats 8000000
/-! A law's body piece by piece: what each statement brings about; the heap cut; texts told anew as drawn ones. -/
namespace MP
open PySem PySem.Spec PyProof.Rows L2 NdefX
section
variable {X : Cx} {D : Ends} {σ : L2.St} {H : Hp}
def Wp (X : Cx) (b : List Stmt) : TS := fun D σ H => ∃ t, PSs X b t ∧ t D σ H
def Wp1 (X : Cx) (st : Stmt) : TS := fun D σ H => ∃ t, PS X st t ∧ t D σ H
theorem pss_wp {b : List Stmt} : PSs X b (Wp X b) := ⟨fun pins s σ H D I ⟨t, ht, h⟩ => ht.run pins s σ H D I h⟩
theorem ps_wp {st : Stmt} : PS X st (Wp1 X st) := ⟨fun pins s σ H D I ⟨t, ht, h⟩ => ht.run pins s σ H D I h⟩
theorem Wp.nil (h : D.nx σ H) : Wp X [] D σ H := ⟨_, pss_nil, h⟩
theorem Wp.cons {st : Stmt} {rest : List Stmt} (h : Wp1 X st { D with nx := Wp X rest D } σ H) : Wp X (st :: rest) D σ H := ⟨_, pss_cons ps_wp pss_wp, h⟩
end
theorem cn_eq {α β : Type} {M : Wd} {E : XK} {r : List Addr} {H : Hp} {R : List Addr → α → β → Prop} {Q : β → Hp → Prop} {x y : Rs α} (e : x = y) (q : Cn M E r H x R Q) : Cn M E r H y R Q := e ▸ q
theorem for_inv {c m : Nat} {S : CS} {st : Stmt} {k : IK} {t : LT} {es : List Ex} {b' : List St} (hx : cSt (cSs c m) c S st = some (.for t k es b')) :
    ∃ tg iter b pos, st = .For tg iter b [] pos ∧ cIt S (cEx c S) tg iter = some (k, es) ∧ cLT S tg = some t ∧ cSs c m S b = some b' := by
  unfold cSt at hx
  split at hx
  · cases hx
  · cases hx
  · cases hx
  · cases hx
  · obtain ⟨y, ey, e⟩ := map_some hx
    cases e
  · cases hx
  · obtain ⟨hl, hx⟩ := guardO_some hx
    obtain ⟨y, ey, e⟩ := map_some hx
    cases e
  · exfalso
    unfold cPar at hx
    split at hx
    · cases hx
    · obtain ⟨_, hx⟩ := guardO_some hx
      obtain ⟨_, _, _, _, e⟩ := bind2_some hx
      cases e
    · split at hx
      · obtain ⟨_, hx⟩ := guardO_some hx
        split at hx
        · obtain ⟨_, _, _, _, e⟩ := bind2_some hx
          cases e
        · cases hx
      · obtain ⟨_, hx⟩ := guardO_some hx
        split at hx
        · split at hx
          · obtain ⟨_, _, _, _, e⟩ := bind2_some hx
            cases e
          · cases hx
        · cases hx
      · cases hx
  · obtain ⟨hl, hx⟩ := guardO_some hx
    obtain ⟨tgs, y, et, ey, e⟩ := bind2_some hx
    cases e
  · obtain ⟨hs, hx⟩ := guardO_some hx
    split at hx
    · obtain ⟨a, y, ea, ey, e⟩ := bind2_some hx
      cases e
    · cases hx
  · obtain ⟨hdc, hx⟩ := guardO_some hx
    obtain ⟨t, y, et, ey, e⟩ := bind2_some hx
    cases e
  · split at hx
    · obtain ⟨i, y, ei, ey, e⟩ := bind2_some hx
      cases e
    · cases hx
  · split at hx
    · obtain ⟨ya, yb, ea, eb, e⟩ := bind2_some hx
      cases e
    · cases hx
  · obtain ⟨y, yb, ey, eb, e⟩ := bind2_some hx
    cases e
  · split at hx
    · rename_i k it t hi ht
      obtain ⟨y, ey, e⟩ := map_some hx
      cases e
      exact ⟨_, _, _, _, rfl, hi, ht, ey⟩
    · cases hx
  · obtain ⟨hl, hx⟩ := guardO_some hx
    split at hx
    · obtain ⟨ys, ey, e⟩ := map_some hx
      cases e
    · cases hx
  · cases hx
section
variable {T : Tb} {M : Wd} {O : Orc} {X : Cx} {W : WX} {S : CS} {D : Ends}
/-- a statement, from the small run -/
theorem Wp1.run {c m : Nat} (ok : CSok T M O S X W) (hsc : X.env.scope = S.sc) (hp : PassesOwn (model X.prog X.w) X.A X.env X.xe) {st : Stmt} {x : St} (hx : cSt (cSs c m) c S st = some x) (n : Nat) {r : List Addr} {s s' : Fr} {h h' : Hv} {σ : L2.St} {H : Hp}
    (hs : RF M r s σ) (he : Emb M r h H) (e : (evs T O n).s s x h = .nx s' h') (q : ∀ r' σ' H', Gro M r H h' r' H' → RF M r' s' σ' → D.nx σ' H') : Wp1 X st D σ H :=
  ⟨_, st_step (soundS c m) ok hsc hp hx n, r, s, h, hs, he, cs_eq e.symm q⟩
theorem Wp1.rt {c m : Nat} (ok : CSok T M O S X W) (hsc : X.env.scope = S.sc) (hp : PassesOwn (model X.prog X.w) X.A X.env X.xe) {st : Stmt} {x : St} (hx : cSt (cSs c m) c S st = some x) (n : Nat) {r : List Addr} {s : Fr} {h h' : Hv} {v : Va} {σ : L2.St} {H : Hp}
    (hs : RF M r s σ) (he : Emb M r h H) (e : (evs T O n).s s x h = .rt v h') (q : ∀ r' y H', Gro M r H h' r' H' → RV M r' v y → D.rt y H') : Wp1 X st D σ H :=
  ⟨_, st_step (soundS c m) ok hsc hp hx n, r, s, h, hs, he, cs_eq e.symm q⟩
/-- a block -/
theorem Wp.run {c m : Nat} (ok : CSok T M O S X W) (hsc : X.env.scope = S.sc) (hp : PassesOwn (model X.prog X.w) X.A X.env X.xe) {b : List Stmt} {xs : List St} (hx : cSs c m S b = some xs) (n : Nat) {r : List Addr} {s s' : Fr} {h h' : Hv} {σ : L2.St} {H : Hp}
    (hs : RF M r s σ) (he : Emb M r h H) (e : evB (evs T O n).s xs s h = .nx s' h') (q : ∀ r' σ' H', Gro M r H h' r' H' → RF M r' s' σ' → D.nx σ' H') : Wp X b D σ H :=
  ⟨_, soundS c m W X S ok hsc hp _ _ hx n, r, s, h, hs, he, cs_eq e.symm q⟩
/-- over a range from 0 -/
theorem Wp1.forR {c : Nat} (ok : CSok T M O S X W) (hp : PassesOwn (model X.prog X.w) X.A X.env X.xe) {tg iter : Expr} {b : List Stmt} {pos : Pos} {es : List Ex} {j : Nat} (hI : cIt S (cEx c S) tg iter = some (.rng, es)) (hT : cLT S tg = some (.one j)) (n : Nat)
    {r : List Addr} {s : Fr} {h h1 : Hv} {σ : L2.St} {H : Hp} {vs : List Va} {cnt : Nat} (hs : RF M r s σ) (he : Emb M r h H) (ega : evPs ((evs T O n).e s) es h = .ok vs h1) (ew : wkOf .rng vs h1 = some (.rng 0 cnt))
    (J : Nat → Fr → Hv → Prop) (j0 : J 0 s h1)
    (step : ∀ i s h r σ H (D' : Ends), i < cnt → J i s h → RF M r (s.set j (some (.int (0 + i)))) σ → Emb M r h H → (∀ r s h σ H, J (i + 1) s h → RF M r s σ → Emb M r h H → D'.nx σ H) → D'.rt = D.rt → Wp X b D' σ H)
    (fin : ∀ r s h σ H, J cnt s h → RF M r s σ → Emb M r h H → D.nx σ H) : Wp1 X (.For tg iter b [] pos) D σ H := by
  obtain ⟨⟨wi, io⟩, ns⟩ := it_ok (sound c).1 ok n hI
  obtain ⟨g, k1, k2⟩ := lt_ok ok hT
  refine ⟨_, ps_for hp ok.calm io.pi k1 (pss_wp (b := b)) (nofold ns), ?_⟩
  refine io.go σ H _ ⟨r, s, h, hs, he, ?_⟩
  refine cn_eq ega.symm (show Cn M (XAt W σ) r H (.ok vs h1) (RVs M) _ from ?_)
  intro r1 xs H1 g1 z1
  refine ⟨r1, vs, h1, _, g1.emb, z1, ew, fun J1 iw => ?_⟩
  refine ⟨fun i m σ H => m = cnt - i ∧ i ≤ cnt ∧ ∃ r s h, RF M r s σ ∧ Emb M r h H ∧ J i s h, ⟨cnt, by simp, Nat.zero_le _, r1, s, h1, hs.mono g1.pre, g1.emb, j0⟩, ?_⟩
  rintro i m σ2 H2 ⟨rfl, hi, r2, s2, h2, hs2, he2, j2⟩
  have iw2 : IWk M X.K r2 H2 (.rng 0 cnt) J1 := iw
  by_cases hlt : i < cnt
  · have ey : Wk.yld (.rng 0 cnt) i h2 = some ([.int (0 + i)], false) := by
      show (match Nat.blt i cnt with
        | true => some ([Va.int (0 + i)], false)
        | false => none) = _
      rw [show Nat.blt i cnt = true from Nat.ble_eq_true_of_le hlt]
    obtain ⟨go, yl⟩ := wk_yld iw2 he2 ey
    refine .inr ⟨go, fun σ' H' => ∃ r s h, RF M r s σ' ∧ Emb M r h H' ∧ J (i + 1) s h, fun σ' H' z => ⟨cnt - (i + 1), by omega, rfl, hlt, z⟩, fun x H' hy => ?_⟩
    refine setT_ok k2 he2 hs2 (show setT (.one j) ([.int (0 + i)], false) s2 h2 = some (s2.set j (some (.int (0 + i)))) from rfl) (yl x H' hy) fun σ1 g1 hs1 _ => ?_
    exact step i s2 h2 r2 σ1 _ _ hlt j2 hs1 g1.emb (fun r s h σ H a b c => ⟨r, s, h, b, c, a⟩) rfl
  · obtain rfl : i = cnt := by omega
    exact .inl ⟨wk_fin iw2 he2 rfl, fin r2 s2 h2 σ2 H2 j2 hs2 he2⟩
end
end MP
set_option linter.all false
set_option maxRecDepth 100000
set_option maxHeartbeats 8000000
/-! The heap cut to its first places, read in another world of drawn texts; what is left behind forgotten. -/
namespace MP
open PySem PySem.Spec PyProof.Rows L2 NdefX
def cloV (n : Nat) : Va → Bool
  | .ref a => Nat.blt a n
  | .tok _ => false
  | _ => true
def cloO (n : Nat) : Ob → Bool
  | .lst xs => xs.all (cloV n)
  | .tup xs => xs.all (cloV n)
  | .dct kvs => kvs.all fun p => cloV n p.1 && cloV n p.2
  | .dtu kvs => kvs.all fun p => cloV n p.2
  | .ins _ fs => fs.all fun p => cloV n p.2
  | .frz o => cloO n o
  | .exo a _ d => Nat.blt a n && Nat.blt d n
  | .exd a fs => Nat.blt a n && fs.all fun p => cloV n p.2
structure SameW (M M' : Wd) : Prop where
  fa : M'.fa = M.fa
  ca : M'.ca = M.ca
  an : M'.an = M.an
  tbs : M'.tbs = M.tbs
section
variable {M M' : Wd} {r r' : List Addr} {h h' h2 : Hv} {H H' : Hp}
theorem take_get {n a : Nat} (h : a < n) : (r.take n)[a]? = r[a]? := by
  rw [List.getElem?_take, if_pos h]
theorem RV.cut (w : SameW M M') {n : Nat} : ∀ {v : Va} {x : V}, RV M r v x → cloV n v = true → RV M' (r.take n) v x
  | .non, _, q, _ => q
  | .bl _, _, q, _ => q
  | .int _, _, q, _ => q
  | .str _, _, q, _ => q
  | .ref a, _, ⟨p, e, q⟩, c => ⟨p, by rw [take_get (Nat.le_of_ble_eq_true c)]; exact e, q⟩
  | .fn _, _, q, _ => by
    unfold RV at q ⊢
    rw [w.fa]
    exact q
  | .cl _, _, q, _ => by
    unfold RV at q ⊢
    rw [w.ca]
    exact q
  | .tok _, _, _, c => by cases c
theorem pAll {α β : Type} {F G : α → β → Prop} {p : α → Bool} (i : ∀ a b, F a b → p a = true → G a b) {xs : List α} {ys : List β} (q : Paired F xs ys) : xs.all p = true → Paired G xs ys := by
  induction q with
  | nil => exact fun _ => .nil
  | cons z t ih =>
    intro c
    rw [List.all_cons, Bool.and_eq_true] at c
    exact .cons (i _ _ z c.1) (ih c.2)
theorem RKt.cut {n : Nat} {v : Va} {k : Key} (q : RKt M v k) (c : cloV n v = true) : RKt M' v k := by
  cases v with
  | tok i => cases c
  | int i => exact q
  | str i => exact q
  | non => exact q
  | bl b => exact q
  | ref b => exact q
  | fn b => exact q
  | cl b => exact q
theorem RFs.cut (w : SameW M M') {n : Nat} {fs : List (Nat × Va)} {ys : List (Str × V)} (q : RFs M r fs ys) (c : (fs.all fun p => cloV n p.2) = true) : RFs M' (r.take n) fs ys :=
  pAll (fun a b z c => ⟨by rw [w.an]; exact z.1, z.2.cut w c⟩) q c
theorem RO.cut (w : SameW M M') {n : Nat} : ∀ {o : Ob} {u : HO}, RO M r o u → cloO n o = true → RO M' (r.take n) o u
  | .lst xs, _, ⟨ys, e, q⟩, c => ⟨ys, e, pAll (fun _ _ z c => z.cut w c) q c⟩
  | .tup xs, _, ⟨ys, e, q⟩, c => ⟨ys, e, pAll (fun _ _ z c => z.cut w c) q c⟩
  | .dct kvs, _, ⟨ys, e, q⟩, c => ⟨ys, e, pAll (p := fun p : Va × Va => cloV n p.1 && cloV n p.2) (fun _ _ z c => by
    rw [Bool.and_eq_true] at c
    exact ⟨z.1.cut c.1, z.2.cut w c.2⟩) q c⟩
  | .dtu kvs, _, ⟨ys, e, q⟩, c => ⟨ys, e, pAll (p := fun p : List Va × Va => cloV n p.2) (fun _ _ z c => ⟨z.1, z.2.cut w c⟩) q c⟩
  | .ins k fs, _, ⟨dx, ys, e, q⟩, c => ⟨dx, ys, by rw [w.ca]; exact e, RFs.cut w q c⟩
  | .frz o, _, ⟨ob, v, e, q⟩, c => ⟨ob, v, e, RO.cut w q c⟩
  | .exo a k d, _, ⟨p, q, e1, e2, e3⟩, c => by
    have c : (Nat.blt a n && Nat.blt d n) = true := c
    rw [Bool.and_eq_true] at c
    exact ⟨p, q, by rw [take_get (Nat.le_of_ble_eq_true c.1)]; exact e1, by rw [take_get (Nat.le_of_ble_eq_true c.2)]; exact e2, by rw [w.ca]; exact e3⟩
  | .exd a fs, _, ⟨q, ys, e1, e2, e3⟩, c => by
    have c : (Nat.blt a n && fs.all fun p => cloV n p.2) = true := c
    rw [Bool.and_eq_true] at c
    exact ⟨q, ys, by rw [take_get (Nat.le_of_ble_eq_true c.1)]; exact e1, e2, RFs.cut w e3 c.2⟩
/-- objects laid from 0 on; none: one that is not told -/
def ofO (os : List (Option Ob)) : Hv := os.foldl (fun h o => match o with
  | some o => h.new o
  | none => ⟨h.t, h.n + 1⟩) ⟨.nil, 0⟩
theorem ofO_aux (os : List (Option Ob)) : ∀ h : Hv, (∀ a, h.n ≤ a → h.get a = none) → (os.foldl (fun h o => match o with
  | some o => h.new o
  | none => ⟨h.t, h.n + 1⟩) h).n = h.n + os.length ∧ ∀ a, (os.foldl (fun h o => match o with
  | some o => h.new o
  | none => ⟨h.t, h.n + 1⟩) h).get a = if a < h.n then h.get a else (os[a - h.n]?).join := by
  induction os with
  | nil =>
    intro h hh
    refine ⟨rfl, fun a => ?_⟩
    show h.get a = _
    split
    · rfl
    · rw [hh a (by omega)]
      simp
  | cons o os ih =>
    intro h hh
    cases o with
    | none =>
      have k := ih ⟨h.t, h.n + 1⟩ (fun a q => hh a (Nat.le_of_succ_le q))
      refine ⟨by rw [List.foldl_cons]; refine k.1.trans ?_; rw [List.length_cons]; show h.n + 1 + os.length = _; omega, fun a => ?_⟩
      rw [List.foldl_cons]
      refine (k.2 a).trans ?_
      show (if a < h.n + 1 then h.get a else _) = _
      by_cases c : a < h.n
      · rw [if_pos c, if_pos (by omega)]
      · by_cases c2 : a = h.n
        · rw [if_pos (by omega), if_neg c, hh a (by omega), c2, Nat.sub_self]
          rfl
        · rw [if_neg (by omega), if_neg c]
          show (os[a - (h.n + 1)]?).join = _
          rw [show a - h.n = (a - (h.n + 1)) + 1 by omega]
          rfl
    | some o =>
      have e : ∀ a, (h.new o).get a = if a = h.n then some o else h.get a := fun a => Hv.get_new ..
      have k := ih (h.new o) (fun a q => by
        have q : h.n + 1 ≤ a := q
        rw [e, if_neg (by omega)]
        exact hh a (by omega))
      refine ⟨by rw [List.foldl_cons]; refine k.1.trans ?_; rw [List.length_cons]; show h.n + 1 + os.length = _; omega, fun a => ?_⟩
      rw [List.foldl_cons]
      refine (k.2 a).trans ?_
      show (if a < h.n + 1 then (h.new o).get a else _) = _
      rw [e]
      by_cases c : a < h.n
      · rw [if_pos c, if_pos (by omega), if_neg (by omega)]
      · by_cases c2 : a = h.n
        · rw [if_pos (by omega), if_neg c, if_pos c2, c2, Nat.sub_self]
          rfl
        · rw [if_neg (by omega), if_neg c]
          show (os[a - (h.n + 1)]?).join = _
          rw [show a - h.n = (a - (h.n + 1)) + 1 by omega]
          rfl
theorem ofO_n (os : List (Option Ob)) : (ofO os).n = os.length := by
  have := (ofO_aux os ⟨.nil, 0⟩ fun a _ => Tr.get_nil a).1
  refine this.trans ?_
  show 0 + os.length = _
  omega
theorem ofO_get (os : List (Option Ob)) (a : Nat) : (ofO os).get a = (os[a]?).join := by
  refine ((ofO_aux os ⟨.nil, 0⟩ fun a _ => Tr.get_nil a).2 a).trans ?_
  show (if a < 0 then _ else _) = _
  rw [if_neg (Nat.not_lt_zero _)]
  rfl
/-- the first places alone, each perhaps read anew -/
theorem Emb.sub (w : SameW M M') (E : Emb M r h H) (os : List (Option Ob)) (hn : os.length ≤ h.n) (hh : ∀ (i : Nat) o', os[i]? = some (some o') → ∃ o, h.get i = some o ∧ ∀ u, RO M r o u → RO M' (r.take os.length) o' u) : Emb M' (r.take os.length) (ofO os) H where
  len := by
    rw [ofO_n, List.length_take, E.len]
    omega
  nd := E.nd.sublist (List.take_sublist _ _)
  tr := fun p hp => E.tr p (List.mem_of_mem_take hp)
  at_ := fun a o' e => by
    rw [ofO_get] at e
    have e : os[a]? = some (some o') := by
      cases q : os[a]? with
      | none =>
        rw [q] at e
        cases e
      | some z =>
        rw [q] at e
        cases z with
        | none => cases e
        | some z =>
          cases e
          rfl
    obtain ⟨o, h1, h2⟩ := hh a o' e
    obtain ⟨p, u, k1, k2, k3⟩ := E.at_ a o h1
    refine ⟨p, u, ?_, k2, h2 u k3⟩
    rw [take_get (by
      have := (List.getElem?_eq_some_iff.mp e).1
      exact this)]
    exact k1
  tab := by
    rw [w.tbs]
    exact E.tab
/-- what is to be kept is there and closed -/
def clos (os : List (Option Ob)) : Bool := os.all fun o => match o with
  | some o => cloO os.length o
  | none => true
theorem Emb.cut (w : SameW M M') (E : Emb M r h H) (os : List (Option Ob)) (hn : os.length ≤ h.n) (hg : ∀ (i : Nat) o, os[i]? = some (some o) → h.get i = some o) (hc : clos os = true) : Emb M' (r.take os.length) (ofO os) H :=
  E.sub w os hn fun i o e => ⟨o, hg i o e, fun u z => z.cut w (by
    have := List.all_eq_true.mp hc _ (List.mem_of_getElem? e)
    exact this)⟩
theorem RF.sub (w : SameW M M') {s s' : Fr} {σ : L2.St} {n : Nat} (q : RF M r s σ) (hl : s'.length = s.length) (hh : ∀ (i : Nat) v, s'[i]? = some (some v) → s[i]? = some (some v) ∧ cloV n v = true) : RF M' (r.take n) s' σ :=
  ⟨hl.trans q.1, fun i v e => by
    obtain ⟨h1, h2⟩ := hh i v e
    obtain ⟨x, k1, k2⟩ := q.2 i v h1
    exact ⟨x, k1, k2.cut w h2⟩⟩
/-- the frame with some slots forgotten -/
def subF (n : Nat) : Fr → Fr → Bool
  | [], [] => true
  | none :: a, _ :: b => subF n a b
  | some v :: a, some u :: b => decide (v = u) && cloV n v && subF n a b
  | _, _ => false
theorem subF_ok {n : Nat} : ∀ {s' s : Fr}, subF n s' s = true → s'.length = s.length ∧ ∀ (i : Nat) v, s'[i]? = some (some v) → s[i]? = some (some v) ∧ cloV n v = true
  | [], [], _ => ⟨rfl, fun i v e => by cases e⟩
  | none :: a, x :: b, h => by
    obtain ⟨k1, k2⟩ := subF_ok (show subF n a b = true from h)
    refine ⟨by rw [List.length_cons, List.length_cons, k1], fun i v e => ?_⟩
    cases i with
    | zero => cases e
    | succ i => exact k2 i v e
  | some v :: a, some u :: b, h => by
    have h : (decide (v = u) && cloV n v && subF n a b) = true := h
    rw [Bool.and_eq_true, Bool.and_eq_true] at h
    obtain ⟨k1, k2⟩ := subF_ok h.2
    refine ⟨by rw [List.length_cons, List.length_cons, k1], fun i x e => ?_⟩
    cases i with
    | zero =>
      cases e
      rw [of_decide_eq_true h.1.1]
      exact ⟨rfl, by rw [← of_decide_eq_true h.1.1]; exact h.1.2⟩
    | succ i => exact k2 i x e
  | [], _ :: _, h => by cases h
  | none :: _, [], h => by cases h
  | some _ :: _, [], h => by cases h
  | some _ :: _, none :: _, h => by cases h
/-- the heap told in other words -/
theorem Emb.ext (E : Emb M r h H) (hn : h2.n = h.n) (hg : ∀ a o, h2.get a = some o → h.get a = some o) : Emb M r h2 H :=
  ⟨E.len.trans hn.symm, E.nd, E.tr, fun a o e => E.at_ a o (hg a o e), E.tab⟩
theorem Gro.ext {h3 : Hv} (G : Gro M r H h3 r' H') (hn : h2.n = h3.n) (hg : ∀ a o, h2.get a = some o → h3.get a = some o) : Gro M r H h2 r' H' :=
  { G with emb := G.emb.ext hn hg }
/-! ### what is made on the way forgotten -/
theorem RV.back (p : r <+: r') : ∀ {v : Va} {x y : V}, RV M r v x → RV M r' v y → RV M r v y
  | .non, _, _, _, q => q
  | .bl _, _, _, _, q => q
  | .int _, _, _, _, q => q
  | .str _, _, _, _, q => q
  | .ref a, _, _, ⟨b, e, _⟩, ⟨c, e2, q⟩ => by
    rw [pre_get p e] at e2
    cases e2
    exact ⟨_, e, q⟩
  | .fn _, _, _, _, q => q
  | .cl _, _, _, _, q => q
  | .tok _, _, _, _, q => q
theorem pBack {α β : Type} {F G : α → β → Prop} (i : ∀ a b c, F a b → G a c → F a c) {xs : List α} : ∀ {ys zs : List β}, Paired F xs ys → Paired G xs zs → Paired F xs zs := by
  induction xs with
  | nil =>
    intro ys zs q1 q2
    cases q2
    exact .nil
  | cons x xs ih =>
    intro ys zs q1 q2
    cases q1 with
    | cons z t =>
      cases q2 with
      | cons z2 t2 => exact .cons (i _ _ _ z z2) (ih t t2)
theorem RO.back (p : r <+: r') : ∀ {o : Ob} {u v : HO}, RO M r o u → RO M r' o v → RO M r o v
  | .lst xs, _, _, ⟨ys, e, q⟩, ⟨zs, e2, q2⟩ => ⟨zs, e2, pBack (fun _ _ _ a b => a.back p b) q q2⟩
  | .tup xs, _, _, ⟨ys, e, q⟩, ⟨zs, e2, q2⟩ => ⟨zs, e2, pBack (fun _ _ _ a b => a.back p b) q q2⟩
  | .dct kvs, _, _, ⟨ys, e, q⟩, ⟨zs, e2, q2⟩ => ⟨zs, e2, pBack (fun _ _ _ a b => ⟨b.1, a.2.back p b.2⟩) q q2⟩
  | .dtu kvs, _, _, ⟨ys, e, q⟩, ⟨zs, e2, q2⟩ => ⟨zs, e2, pBack (fun _ _ _ a b => ⟨b.1, a.2.back p b.2⟩) q q2⟩
  | .ins c fs, _, _, ⟨dx, ys, e, q⟩, ⟨dx2, zs, e2, q2⟩ => ⟨dx2, zs, e2, pBack (fun _ _ _ a b => ⟨b.1, a.2.back p b.2⟩) q q2⟩
  | .frz o, _, _, ⟨ob, v, e, q⟩, ⟨ob2, v2, e2, q2⟩ => ⟨ob2, v2, e2, RO.back p q q2⟩
  | .exo a c d, _, _, ⟨x, y, e1, e2, e3⟩, ⟨x2, y2, k1, k2, k3⟩ => by
    rw [pre_get p e1] at k1
    rw [pre_get p e2] at k2
    cases k1
    cases k2
    exact ⟨_, _, e1, e2, k3⟩
  | .exd a fs, _, _, ⟨x, ys, e1, e2, e3⟩, ⟨x2, zs, k1, k2, k3⟩ => by
    rw [pre_get p e1] at k1
    cases k1
    exact ⟨_, zs, e1, k2, pBack (fun _ _ _ a b => ⟨b.1, a.2.back p b.2⟩) e3 k3⟩
theorem Gro.less (E : Emb M r h H) (G : Gro M r H h2 r' H') (hg : ∀ a o, h.get a = some o → h2.get a = some o) : Gro M r H h r H' where
  pre := List.prefix_refl _
  emb := ⟨E.len, E.nd, fun p hp => by
      obtain ⟨t, e⟩ := G.pre
      exact G.emb.tr p (by rw [← e]; exact List.mem_append_left _ hp), fun a o e => by
      obtain ⟨p, u, k1, k2, k3⟩ := E.at_ a o e
      obtain ⟨p2, u2, l1, l2, l3⟩ := G.emb.at_ a o (hg a o e)
      rw [pre_get G.pre k1] at l1
      cases l1
      exact ⟨p, u2, k1, l2, k3.back G.pre l3⟩, G.emb.tab⟩
  new := fun _ a b => absurd a b
  fre := fun p u e hn ht => by
    by_cases q : p ∈ r'
    · obtain ⟨ps, k⟩ := G.new p q hn u e
      exact absurd k (ht ps)
    · exact G.fre p u e hn ht
  frz := G.frz
  tab := G.tab
end
end MP
set_option linter.all false
set_option maxRecDepth 100000
set_option maxHeartbeats 8000000
/-! is_name on drawn texts; all defs, is_name answered. -/
namespace MP
open PySem PySem.Spec PyProof.Rows L2 NdefX
def smallL : List Nat := [97, 98, 99, 100, 101, 102, 103, 104, 105, 106, 107, 108, 109, 110, 111, 112, 113, 114, 115, 116, 117, 118, 119, 120, 121, 122]
def nameB : List St := [St.ret
   (Ex.and
     (Ex.isi (Ex.var 0) [TyC.str])
     (Ex.and
       (Ex.chn
         (CO.le)
         (CO.le)
         (Ex.cst (Va.int (Int.ofNat 1)))
         (Ex.lenI (Ex.var 0))
         (Ex.cst (Va.int (Int.ofNat 8))))
       (Ex.blt
         (Bf.all)
         [Ex.lc
            (Ex.cmp
              (CO.isin)
              (Ex.var 1)
              (Ex.cst
                (Va.str [97, 98, 99, 100, 101, 102, 103, 104, 105, 106, 107, 108, 109, 110, 111, 112, 113, 114, 115, 116, 117, 118, 119, 120, 121, 122])))
            (LT.one 1)
            (IK.it)
            [Ex.var 0]
            []
            [1]])))]
def okNm (x : List Nat) : Bool := Nat.ble 1 x.length && Nat.ble x.length 8 && x.all fun c => smallL.any (Nat.beq c)
theorem allBl_rep : ∀ n : Nat, ∃ l, allBl (List.replicate n (.bl true)) = some l ∧ l.all id = true
  | 0 => ⟨[], rfl, rfl⟩
  | n + 1 => by
    obtain ⟨l, h1, h2⟩ := allBl_rep n
    refine ⟨true :: l, ?_, by rw [List.all_cons, h2]; rfl⟩
    rw [List.replicate_succ]
    show (match allBl (List.replicate n (.bl true)) with
      | some is => some (true :: is)
      | none => none) = _
    rw [h1]
theorem evL_step {w : Wk} {t : LT} {cs : Fr → Hv → Rs Bool} {el : Fr → Hv → Rs Va} {s0 s1 : Fr} {d k i : Nat} {h h1 h2 : Hv} {y : List Va × Bool} {v : Va} {acc : List Va} (ey : w.yld i h = some y) (es : setT t y s0 h = some s1) (ec : cs s1 h = .ok true h1) (ee : el s1 h1 = .ok v h2) (eg : h2.get d = some (.lst acc)) (hl : acc.length < Bnd) :
    evL w t cs el s0 d (k + 1) i h = evL w t cs el s0 d k (i + 1) (h2.set d (.lst (acc ++ [v]))) := by
  rw [evL, ey]
  dsimp only
  rw [es]
  dsimp only
  rw [ec]
  dsimp only
  rw [ee]
  dsimp only
  rw [eg]
  dsimp only
  rw [show Nat.blt acc.length Bnd = true from Nat.ble_eq_true_of_le hl]
section
variable {T : Tb} {O : Orc} {n : Nat} {s : Fr} {h : Hv}
theorem ev_lc {e : Ex} {t : LT} {k : IK} {it ifs : List Ex} {ws : List Nat} {vs : List Va} {h1 : Hv} {w : Wk} (e1 : evPs ((evs T O n).e s) it h = .ok vs h1) (e2 : wkOf k vs h1 = some w) :
    (evs T O (n + 1)).e s (.lc e t k it ifs ws) h = evL w t (fun s2 h2 => evC ((evs T O n).t s2) ifs h2) (fun s2 h2 => (evs T O n).e s2 e h2) (wp s ws) h1.n w.len 0 (h1.new (.lst [])) := by
  show ((evPs ((evs T O n).e s) it h).bind fun vs h1 => match wkOf k vs h1 with
    | none => .no
    | some w => evL w t (fun s2 h2 => evC ((evs T O n).t s2) ifs h2) (fun s2 h2 => (evs T O n).e s2 e h2) (wp s ws) h1.n w.len 0 (h1.new (.lst []))) = _
  rw [e1]
  show (match wkOf k vs h1 with
    | none => Rs.no
    | some w => evL w t (fun s2 h2 => evC ((evs T O n).t s2) ifs h2) (fun s2 h2 => (evs T O n).e s2 e h2) (wp s ws) h1.n w.len 0 (h1.new (.lst []))) = _
  rw [e2]
theorem ev_chn {o p : CO} {a b c : Ex} : (evs T O (n + 1)).e s (.chn o p a b c) h = ((evs T O n).e s a h).bind fun x h1 => ((evs T O n).e s b h1).bind fun y h2 => (opCmp o x y h2).bind fun k h3 => match k with
  | true => ((evs T O n).e s c h3).bind fun z h4 => bl (opCmp p y z h4)
  | false => .ok (.bl false) h3 := rfl
theorem ev_lenI {a : Ex} : (evs T O (n + 1)).e s (.lenI a) h = ((evs T O n).e s a h).bind fun x h1 => vLenI T O x h1 := rfl
theorem ev_isi {a : Ex} {ts : List TyC} : (evs T O (n + 1)).e s (.isi a ts) h = ((evs T O n).e s a h).bind fun x h1 => bl (toB (anyTy T x h1 ts) h1) := rfl
theorem ev_join {a e : Ex} : (evs T O (n + 1)).e s (.join a e) h = ((evs T O n).e s a h).bind fun x h1 => gd (isStrB x) (((evs T O n).e s e h1).bind fun y h2 => opJoin x y h2) := rfl
theorem es_par {ts : List Tg} {es : List Ex} : (evs T O (n + 1)).s s (.par ts es) h = (evPs ((evs T O n).e s) es h).st s fun vs h1 => gdS (Nat.ble vs.length Bnd) (asgN (asgT (evs T O n).e T O) ts vs s h1) := rfl
theorem len_str {x : List Nat} (hx : x.length ≤ Bnd) : vLenI T O (.str x) h = .ok (Va.int x.length) h := by
  show gd (Nat.ble x.length Bnd) (Rs.ok (Va.int x.length) h) = _
  rw [Nat.ble_eq_true_of_le hx]
  rfl
end
theorem nm_loop {cs : Fr → Hv → Rs Bool} {el : Fr → Hv → Rs Va} {s0 : Fr} {d : Nat} {x : List Nat} (hcs : ∀ s h, cs s h = .ok true h) (hel : ∀ (c : Nat) h, c ∈ x → el (s0.set 1 (some (.str [c]))) h = .ok (.bl true) h) (hx : x.length ≤ 8) :
    ∀ (k i : Nat) (acc : Nat) (h : Hv), i + k = x.length → acc = i → h.get d = some (.lst (List.replicate acc (.bl true))) → ∃ h', evL (.str x) (.one 1) cs el s0 d k i h = .ok (.ref d) h' ∧ h'.n = h.n ∧ h'.get d = some (.lst (List.replicate x.length (.bl true))) ∧ ∀ a, a ≠ d → h'.get a = h.get a
  | 0, i, acc, h, e, ea, hd => ⟨h, rfl, rfl, by rw [hd, ea, show i = x.length by omega], fun a _ => rfl⟩
  | k + 1, i, acc, h, e, ea, hd => by
    have hi : i < x.length := by omega
    have e1 : evL (.str x) (.one 1) cs el s0 d (k + 1) i h = evL (.str x) (.one 1) cs el s0 d k (i + 1) (h.set d (.lst (List.replicate acc (.bl true) ++ [.bl true]))) :=
      evL_step (y := ([.str [x[i]]], false)) (s1 := s0.set 1 (some (.str [x[i]]))) (by
        show (match x[i]? with
        | some c => some ([Va.str [c]], false)
        | none => none) = _
        rw [List.getElem?_eq_getElem hi]) rfl (hcs _ h) (hel _ h (List.getElem_mem hi)) hd (by rw [List.length_replicate]; unfold Bnd; omega)
    obtain ⟨h', k1, k2, k3, k4⟩ := nm_loop hcs hel hx k (i + 1) (acc + 1) (h.set d (.lst (List.replicate acc (.bl true) ++ [.bl true]))) (by omega) (by omega) (by
      rw [get_set_same, List.replicate_succ'])
    exact ⟨h', e1.trans k1, k2, k3, fun a ne => (k4 a ne).trans (get_set_ne ne)⟩
theorem name_run {T : Tb} {O : Orc} {f n : Nat} {x : List Nat} {h : Hv} (hk : T.kit .str .str = some true) (ok : okNm x = true) : ∃ h2, runB T O f (n + 9) 2 nameB [.str x] h = .ok (.bl true) h2 ∧ ∀ a, a < h.n → h2.get a = h.get a := by
  unfold okNm at ok
  rw [Bool.and_eq_true, Bool.and_eq_true] at ok
  obtain ⟨⟨l1, l2⟩, l3⟩ := ok
  have l1 := Nat.le_of_ble_eq_true l1
  have l2 := Nat.le_of_ble_eq_true l2
  have ln : Nat.ble x.length Bnd = true := Nat.ble_eq_true_of_le (by unfold Bnd; omega)
  obtain ⟨h', k1, k2, k3, k4⟩ := nm_loop (s0 := wp [some (.str x), none] [1]) (d := h.n) (cs := fun s2 h2 => evC ((evs (T.at (T.lv f)) O (n + 4)).t s2) [] h2) (el := fun s2 h2 => (evs (T.at (T.lv f)) O (n + 4)).e s2 (.cmp .isin (.var 1) (.cst (.str smallL))) h2) (x := x) (fun _ _ => rfl) (fun c h hc => by
      show bl (toB (some (smallL.any (Nat.beq c))) h) = _
      rw [List.all_eq_true.mp l3 c hc]
      rfl) l2 x.length 0 0 (h.new (.lst [])) (by omega) rfl (by rw [Hv.get_new, if_pos rfl]; rfl)
  refine ⟨h', ?_, fun a ha => by rw [k4 a (by omega), Hv.get_new, if_neg (by omega)]⟩
  have c1 : opCmp .le (.int (Int.ofNat 1)) (.int x.length) h = .ok true h := by
    show Rs.ok (decide (Int.ofNat 1 ≤ (x.length : Int))) h = _
    rw [decide_eq_true (show Int.ofNat 1 ≤ (x.length : Int) from Int.ofNat_le.mpr l1)]
  have c2 : opCmp .le (.int x.length) (.int (Int.ofNat 8)) h = .ok true h := by
    show Rs.ok (decide ((x.length : Int) ≤ Int.ofNat 8)) h = _
    rw [decide_eq_true (show (x.length : Int) ≤ Int.ofNat 8 from Int.ofNat_le.mpr l2)]
  have c3 : opBlt .all [.ref h.n] h' = .ok (.bl true) h' := by
    show bAll h' (.ref h.n) = _
    unfold bAll
    dsimp only
    rw [rd_of_lst k3]
    dsimp only
    obtain ⟨l, q1, q2⟩ := allBl_rep x.length
    rw [q1]
    dsimp only
    rw [q2]
  show endOf (evB (evs (T.at (T.lv f)) O (n + 8 + 1)).s nameB [some (.str x), none] h) = _
  unfold nameB
  rw [evB_cons, es_ret, ev_and, ev_isi, ev_var, getV_0, bind_ok']
  have c4 : bl (toB (anyTy (T.at (T.lv f)) (.str x) h [.str]) h) = .ok (.bl true) h := by
    show bl (toB (match T.kit .str .str with
    | none => none
    | some true => some true
    | some false => some false) h) = _
    rw [hk]
    rfl
  rw [c4, bind_ok']
  dsimp only
  rw [ev_and, ev_chn, ev_cst, bind_ok', ev_lenI, ev_var, getV_0, bind_ok', len_str (by unfold Bnd; omega), bind_ok', c1, bind_ok']
  dsimp only
  rw [ev_cst, bind_ok', c2, bl_ok, bind_ok']
  dsimp only
  rw [ev_blt, evPs_cons, ev_lc (w := .str x) (vs := [.str x]) (h1 := h) rfl rfl]
  refine (congrArg (fun z => endOf (((Rs.bind (Rs.bind z fun v h1 => (evPs ((evs (T.at (T.lv f)) O (n + 5)).e [some (.str x), none]) [] h1).bind fun ys h2 => .ok (v :: ys) h2) fun vs h1 => opBlt .all vs h1).st [some (.str x), none] fun v h1 => RS.rt v h1).nxt fun s1 h1 => evB (evs (T.at (T.lv f)) O (n + 8 + 1)).s [] s1 h1)) k1).trans ?_
  show endOf (((opBlt .all [.ref h.n] h').st [some (.str x), none] fun v h1 => RS.rt v h1).nxt fun s1 h1 => evB (evs (T.at (T.lv f)) O (n + 8 + 1)).s [] s1 h1) = _
  rw [c3]
  rfl
end MP
set_option linter.all false
set_option maxRecDepth 100000
set_option maxHeartbeats 8000000
/-! All defs keep their small functions, is_name answered on drawn texts. -/
namespace MP
open PySem PySem.Spec PyProof.Rows L2 NdefX
/-- one small call told by another -/
def LeR (M : Wd) (f : Nat) (x : List Va → Hv → Rs Va) (y : List Va → Hv → Rs Va) : Prop := ∀ r us ys h H, RVs M r us ys → Emb M r h H → us.length = f → ∃ us', RVs M r us' ys ∧ us'.length = us.length ∧ ∀ E Q, Cn M E r H (x us h) (RV M) Q → Cn M E r H (y us' h) (RV M) Q
section
variable {gt : List (Str × GK)} {an : List Str} {T : Tb} {M : Wd} {O : Orc} {P : Program} {w : World} {K : PySem.W.Frag} {mg : Str → Option Value} {base : Heap}
theorem fnok_ofR {O' : Orc} (wk : Wok gt an T M O P w K mg base) {f : Nat} {x qual : Str} {params : Arguments} {body : List Stmt} {scope : Scope} {dvs : List V} {kws : List (Str × V)} {fd : FuncData} {N ps : List Str} {c m n : Nat} {xs : List St}
    (F : FunD K x qual params body scope dvs kws (M.fa f) fd) (SC : FnScope N ps scope) (har : ps.length = T.ar f) (hlv : 0 < T.lv f) (hc : cSs c m ⟨N, scope, gt, an, false⟩ body = some xs) (below : ∀ g, T.lv g < T.lv f → DOk P w K mg base T M O g)
    (hO : LeR M (T.ar f) (O' f) (runB T O f n N.length xs)) : FnOk P w K mg base (L2.CX P w) (T.lv f) (M.fa f) fd ps (spO M (T.ar f) (O' f)) := by
    have lv : T.lv f = (T.lv f - 1) + 1 := by omega
    rw [lv]
    refine F.ok SC (fun vs H Q E h => by rw [har]; exact h.1) fun cdv A outer s H vs Q E hr h => ?_
    have ok := csok_of (lam := false) wk (lv := T.lv f) (E := E) (H := H) (outer := outer) SC hr below (fun h => by cases h)
    refine ⟨_, soundS c m _ _ _ ok rfl (passes_of rfl) body xs hc n, ?_⟩
    obtain ⟨hl, r, us, hv, he, z, q⟩ := h
    have hpl : ps.length ≤ N.length := by
      have := congrArg List.length SC.pre
      rw [List.length_take] at this
      omega
    obtain ⟨us', z', hl', hO⟩ := hO r us vs hv H z he (by rw [z.length]; exact hl)
    refine ⟨r, frame0 N.length us', hv, start_ok z' (by rw [hl, ← har]; exact hpl), he, ?_⟩
    have q := hO E Q q
    unfold runB at q
    show Cs M (fun c d _ H' => E c d H') { nx := fun _ H' => Q .non H', rt := Q } r H (evB (evs (T.at (T.lv f)) O n).s xs (frame0 N.length us') hv)
    revert q
    cases evB (evs (T.at (T.lv f)) O n).s xs (frame0 N.length us') hv with
    | nx s' h' => exact fun q r' σ' H' g zz => Cn.okG (R := RV M) (v := Va.non) (y := V.non) q g (show RV M r' .non V.non from rfl)
    | rt v h' => exact fun q r' y H' g zz => Cn.okG (v := v) q g zz
    | bk s' h' => exact fun q => q.elim
    | ct s' h' => exact fun q => q.elim
    | ex c fs s' h' => exact fun q r' σ' H' d ys g zz zf e => q r' H' d ys g zf e
    | no => exact fun q => q.elim
theorem dok_ofR {O' : Orc} (wk : Wok gt an T M O P w K mg base) {f : Nat} {x qual : Str} {params : Arguments} {body : List Stmt} {scope : Scope} {dvs : List V} {kws : List (Str × V)} {fd : FuncData} {N ps : List Str} {c m n : Nat} {xs : List St}
    (F : FunD K x qual params body scope dvs kws (M.fa f) fd) (SC : FnScope N ps scope) (har : ps.length = T.ar f) (hlv : 0 < T.lv f) (hc : cSs c m ⟨N, scope, gt, an, false⟩ body = some xs) (below : ∀ g, T.lv g < T.lv f → DOk P w K mg base T M O g)
    (hO : LeR M (T.ar f) (O' f) (runB T O f n N.length xs)) (hd : ∀ j, j ≤ (T.dfl f).length - (T.ar f - T.pos f) → Dfs M K fd ps ((T.dfl f).drop j)) (hkw : ∀ n ks ds, (n, ks, ds) ∈ T.kwo f → KwD M K fd ps n ks ds) : DOk P w K mg base T M O' f where
  ex := ⟨fd, ps, fnok_ofR wk F SC har hlv hc below hO, hd, hkw⟩
  kp := F.kp
end
/-- each drawn text is a name -/
def GoodT (t : Toks) : Prop := ∀ k, k < t.nt → okNm (t.tk k).cps.toList = true
theorem OrN_succ (D : LD) (nm k f : Nat) (us : List Va) (h : Hv) : OrN D nm (k + 1) f us h = match ovN nm f us with
  | true => .ok (.bl true) h
  | false => (match D.fi.get f with
    | some x => runB D.T (OrN D nm k) f fuelN x.slots x.body us h
    | none => .no) := rfl
section
variable {D : LD} {P : Program} {w : World} {K : PySem.W.Frag} {mg : Str → Option Value} {base h : Heap} {t : Toks}
theorem leR_N {M : Wd} {nm k f : Nat} {x : Fi} (hg : ∀ k, k < M.nt → okNm (M.tk k).cps.toList = true) (e : D.fi.get f = some x) (ear : D.T.ar f = x.ar) (hk : D.T.kit .str .str = some true) (hn : ∀ x, D.fi.get nm = some x → x.body = nameB ∧ x.slots = 2) : LeR M (D.T.ar f) (OrN D nm (k + 1) f) (runB D.T (OrN D nm k) f fuelN x.slots x.body) := by
  intro r us ys h H z he hl
  cases eo : ovN nm f us with
  | false =>
    refine ⟨us, z, rfl, fun E Q q => ?_⟩
    rw [OrN_succ, eo] at q
    dsimp only at q
    rw [e] at q
    exact q
  | true =>
    unfold ovN at eo
    rw [Bool.and_eq_true] at eo
    have e1 := Nat.eq_of_beq_eq_true eo.1
    subst e1
    obtain ⟨hb, hs⟩ := hn x e
    match us, z, hl, eo.2 with
    | [.tok i], z, hl, _ =>
      cases z with
      | cons z0 t =>
        cases t
        obtain ⟨hi, rfl⟩ := z0
        obtain ⟨h2, k1, k2⟩ := name_run (T := D.T) (O := OrN D f k) (f := f) (n := 3991) (h := h) hk (hg i hi)
        refine ⟨[.str (M.tk i).cps.toList], .cons (show V.str (M.tk i) = V.str ⟨(M.tk i).cps.toList.toArray⟩ by simp) .nil, rfl, fun E Q q => ?_⟩
        rw [OrN_succ, show ovN f f [.tok i] = true from by unfold ovN; rw [show Nat.beq f f = true from Nat.beq_refl f]; rfl] at q
        dsimp only at q
        rw [hb, hs, show fuelN = 3991 + 9 from rfl, k1]
        intro r' y H' g zz
        exact q r y H' (g.less he fun a o e => by
          have : a < h.n := by
            obtain ⟨p, _, h3, _⟩ := he.at_ a o e
            rw [← he.len]
            exact (List.getElem?_eq_some_iff.mp h3).1
          rw [k2 a this]
          exact e) zz
theorem all_dokN {nm : Nat} (hi : anGood D.an = true) (KX : K.In h) (G : h.Ns mainGlobals mg) (c : SaysW D K) (xb : XBs D) (hP : D.P = P) (ht : (P.main.scope.names.lookup ("super" : Str)).isSome = false) (dd : ∀ f x, D.fi.get f = some x → DD D f) (hg : GoodT t) (hk : D.T.kit .str .str = some true) (hn : ∀ x, D.fi.get nm = some x → x.body = nameB ∧ x.slots = 2) :
    ∀ k f, D.T.lv f ≤ k → k < 100000 → DOk P w K mg base D.T (D.M hi K t) (OrN D nm k) f := by
  intro k
  induction k with
  | zero =>
    intro f hf hk
    exfalso
    cases e : D.fi.get f with
    | none =>
      have : D.T.lv f = 100000 := by
        show fiLv (D.fi.get f) = _
        rw [e]
        rfl
      omega
    | some x =>
      obtain ⟨i, d, gt, N, ps, c', m, x', _, _, _, _, e2, _, _, hl, _⟩ := (dd f x e).ex
      rw [e] at e2
      cases e2
      have : D.T.lv f = x.lv := by
        show fiLv (D.fi.get f) = _
        rw [e]
        rfl
      omega
  | succ k ih =>
    intro f hf hk2
    cases e : D.fi.get f with
    | none =>
      exfalso
      have : D.T.lv f = 100000 := by
        show fiLv (D.fi.get f) = _
        rw [e]
        rfl
      omega
    | some x =>
      obtain ⟨i, d, gt, N, ps, c', m, x', h1, h2, h3, h4, e2, h5, h6, h7, h8, h9⟩ := (dd f x e).ex
      rw [e] at e2
      cases e2
      obtain ⟨fd, F⟩ := c.def_ h1
      have ea : (D.M hi K t).fa f = d.at_.ad K := by
        show fpA K (D.fp.get f) = _
        rw [h2]
        rfl
      have elv : D.T.lv f = x.lv := by
        show fiLv (D.fi.get f) = _
        rw [e]
        rfl
      have ear : D.T.ar f = x.ar := by
        show fiAr (D.fi.get f) = _
        rw [e]
        rfl
      have enp : D.T.pos f = x.np := by
        show fiNp (D.fi.get f) = _
        rw [e]
        rfl
      have ekw : D.T.kwo f = x.kw := by
        show fiKw (D.fi.get f) = _
        rw [e]
        rfl
      have edf : D.T.dfl f = x.dfl := by
        show fiDf (D.fi.get f) = _
        rw [e]
        rfl
      refine dok_ofR (O := OrN D nm k) (n := fuelN) (D.wok hi KX G c xb hP ht h3) (by rw [ea]; exact F) h4 (by rw [ear, h5]) (by rw [elv]; exact h7) h8 (fun g hg => ih g (by omega) (by omega)) (by rw [← h6]; exact leR_N hg e ear hk hn) (by rw [edf, ear, enp]; exact (h9 (D.M hi K t) K fd rfl F).1) (by rw [ekw]; exact (h9 (D.M hi K t) K fd rfl F).2)
end
end MP
set_option linter.all false
set_option maxRecDepth 100000
set_option maxHeartbeats 8000000
/-! Drawn names. -/
namespace MP
/-- the bag at b, its cells at q -/
structure Has (A : List Int) (q b : Nat) (h : Hv) : Prop where
  bag : ∃ (i : Nat) (g z t : Int), h.get b = some (.lst [.ref q, .int i, .int g, .int z, .int t]) ∧ i ≤ A.length ∧ 0 ≤ g ∧ 0 ≤ z ∧ z < 2147483629
  cel : h.rd q = some (.lst (A.map Va.int))
  ne : q ≠ b
  lq : q < h.n
  lb : b < h.n
/-- but for b -/
structure Mv (b : Nat) (h h' : Hv) : Prop where
  n : h'.n = h.n
  get : ∀ a, a ≠ b → h'.get a = h.get a
theorem Has.keep {A : List Int} {q b : Nat} {h h' : Hv} (H : Has A q b h) (hn : h.n ≤ h'.n) (hg : ∀ a, a = q ∨ a = b → h'.get a = h.get a) : Has A q b h' := by
  obtain ⟨i, g, z, t, e, k⟩ := H.bag
  refine ⟨⟨i, g, z, t, by rw [hg b (.inr rfl)]; exact e, k⟩, ?_, H.ne, Nat.lt_of_lt_of_le H.lq hn, Nat.lt_of_lt_of_le H.lb hn⟩
  show unf (h'.get q) = _
  rw [hg q (.inl rfl)]
  exact H.cel
theorem Mv.set {b : Nat} {h : Hv} {o : Ob} : Mv b h (h.set b o) := ⟨rfl, fun a ne => get_set_ne ne⟩
/-- the draws by calls -/
structure Drw (T : Tb) (O : Orc) (p o : Nat) (A : List Int) (q b : Nat) : Prop where
  pull : ∀ h m, Has A q b h → 0 < m → m < 1073741824 → ∃ h' r, callF T O 0 p [.ref b, .int m] h = .ok (.int r) h' ∧ Has A q b h' ∧ Mv b h h' ∧ 0 ≤ r ∧ r < m
  of_ : ∀ h (y : List Nat), Has A q b h → y ≠ [] → y.length < 1000 → ∃ h' c, callF T O 0 o [.ref b, .str y] h = .ok (.str [c]) h' ∧ Has A q b h' ∧ Mv b h h' ∧ c ∈ y
def Sing (xs : List Nat) : List Va := xs.map fun c => .str [c]
section
variable {T : Tb} {O : Orc} {p o : Nat} {A : List Int} {q b : Nat}
theorem rng_yld {cnt i : Nat} {h : Hv} (hi : i < cnt) : Wk.yld (.rng 0 cnt) i h = some ([.int (0 + i)], false) := by
  show (match Nat.blt i cnt with
    | true => some ([Va.int (0 + i)], false)
    | false => none) = _
  rw [show Nat.blt i cnt = true from Nat.ble_eq_true_of_le hi]
theorem stem_loop (Dw : Drw T O p o A q b) {cs : Fr → Hv → Rs Bool} {el : Fr → Hv → Rs Va} {s0 : Fr} {d j cnt : Nat} {Y : List Nat} (hY : Y ≠ []) (lY : Y.length < 1000) (hcs : ∀ s h, cs s h = .ok true h) (hel : ∀ (i : Int) h, el (s0.set j (some (.int i))) h = callF T O 0 o [.ref b, .str Y] h) (d1 : d ≠ b) (d2 : d ≠ q) (hc : cnt ≤ 1000) :
    ∀ (k i : Nat) (acc : List Nat) (hh : Hv), Has A q b hh → hh.get d = some (.lst (Sing acc)) → i + k = cnt → acc.length = i → (∀ c ∈ acc, c ∈ Y) →
      ∃ h' xs, evL (.rng 0 cnt) (.one j) cs el s0 d k i hh = .ok (.ref d) h' ∧ Has A q b h' ∧ h'.get d = some (.lst (Sing xs)) ∧ xs.length = cnt ∧ (∀ c ∈ xs, c ∈ Y) ∧ h'.n = hh.n ∧ ∀ a, a ≠ b → a ≠ d → h'.get a = hh.get a
  | 0, i, acc, hh, H, hd, e, ea, hy => ⟨hh, acc, rfl, H, hd, by omega, hy, rfl, fun _ _ _ => rfl⟩
  | k + 1, i, acc, hh, H, hd, e, ea, hy => by
    obtain ⟨h1, c, e1, H1, m1, hc1⟩ := Dw.of_ hh Y H hY lY
    have hd1 : h1.get d = some (.lst (Sing acc)) := (m1.get d d1).trans hd
    have st := evL_step (w := .rng 0 cnt) (t := .one j) (cs := cs) (el := el) (s0 := s0) (k := k) (h := hh) (rng_yld (by omega)) rfl (hcs _ hh) ((hel (0 + i) hh).trans e1) hd1 (by rw [Sing, List.length_map]; unfold Bnd; omega)
    rw [st]
    have H2 : Has A q b (h1.set d (.lst (Sing acc ++ [.str [c]]))) := H1.keep (Nat.le_refl _) fun a ha => get_set_ne (ha.elim (fun k => k ▸ Ne.symm d2) fun k => k ▸ Ne.symm d1)
    obtain ⟨h', xs, k1, k2, k3, k4, k5, k6, k7⟩ := stem_loop Dw hY lY hcs hel d1 d2 hc k (i + 1) (acc ++ [c]) (h1.set d (.lst (Sing acc ++ [.str [c]]))) H2 (by rw [get_set_same, Sing, Sing, List.map_append]; rfl) (by omega) (by rw [List.length_append, ea]; rfl) (fun z hz => by
      rcases List.mem_append.mp hz with hz | hz
      · exact hy z hz
      · rw [List.mem_singleton.mp hz]
        exact hc1)
    exact ⟨h', xs, k1, k2, k3, k4, k5, k6.trans m1.n, fun a n1 n2 => (k7 a n1 n2).trans ((get_set_ne n2).trans (m1.get a n1))⟩
theorem list_loop {cs : Fr → Hv → Rs Bool} {el : Fr → Hv → Rs Va} {s0 : Fr} {d j cnt : Nat} {nm : Nat → Va} (hcs : ∀ s h, cs s h = .ok true h) (hel : ∀ (i : Nat) h, i < cnt → el (s0.set j (some (.int (0 + i)))) h = .ok (nm i) h) (hc : cnt ≤ 1000) :
    ∀ (k i : Nat) (hh : Hv), hh.get d = some (.lst ((List.range i).map nm)) → i + k = cnt →
      ∃ h', evL (.rng 0 cnt) (.one j) cs el s0 d k i hh = .ok (.ref d) h' ∧ h'.get d = some (.lst ((List.range cnt).map nm)) ∧ h'.n = hh.n ∧ ∀ a, a ≠ d → h'.get a = hh.get a
  | 0, i, hh, hd, e => ⟨hh, rfl, by rw [hd, show i = cnt by omega], rfl, fun _ _ => rfl⟩
  | k + 1, i, hh, hd, e => by
    have st := evL_step (w := .rng 0 cnt) (t := .one j) (cs := cs) (el := el) (s0 := s0) (k := k) (h := hh) (rng_yld (by omega)) rfl (hcs _ hh) (hel i hh (by omega)) hd (by rw [List.length_map, List.length_range]; unfold Bnd; omega)
    rw [st]
    obtain ⟨h', k1, k2, k3, k4⟩ := list_loop hcs hel hc k (i + 1) (hh.set d (.lst ((List.range i).map nm ++ [nm i]))) (by rw [get_set_same, List.range_succ, List.map_append]; rfl) (by omega)
    exact ⟨h', k1, k2, k3, fun a n => (k4 a n).trans (get_set_ne n)⟩
end
/-- the k-th name -/
def nmK (st : List Nat) (a f k : Nat) : List Nat := (st.take a ++ [smallL.getD ((f + 5 * k) % 26) 0]) ++ st.drop a
theorem small_in : ∀ j, j < 26 → smallL.getD j 0 ∈ smallL := by decide
theorem small_inj : ∀ i, i < 26 → ∀ j, j < 26 → smallL.getD i 0 = smallL.getD j 0 → i = j := by decide
theorem small_any {c : Nat} (h : c ∈ smallL) : smallL.any (Nat.beq c) = true := List.any_eq_true.mpr ⟨c, h, Nat.beq_refl c⟩
theorem nmK_ok {st : List Nat} {a f k : Nat} (hl : st.length ≤ 7) (hs : ∀ c ∈ st, c ∈ smallL) : okNm (nmK st a f k) = true := by
  have l : (nmK st a f k).length = st.length + 1 := by
    unfold nmK
    rw [List.length_append, List.length_append, List.length_take, List.length_drop, List.length_singleton]
    omega
  unfold okNm
  rw [l, Nat.ble_eq_true_of_le (by omega), Nat.ble_eq_true_of_le (by omega), List.all_eq_true.mpr fun c hc => ?_]
  · rfl
  · refine small_any ?_
    unfold nmK at hc
    rcases List.mem_append.mp hc with hc | hc
    · rcases List.mem_append.mp hc with hc | hc
      · exact hs c (List.mem_of_mem_take hc)
      · rw [List.mem_singleton.mp hc]
        exact small_in _ (Nat.mod_lt _ (by decide))
    · exact hs c (List.mem_of_mem_drop hc)
theorem nmK_inj {st : List Nat} {a f i j : Nat} (hi : i < 26) (hj : j < 26) (e : nmK st a f i = nmK st a f j) : i = j := by
  unfold nmK at e
  have e := (List.append_inj_left' e rfl)
  have e := List.append_inj_right e rfl
  have e : smallL.getD ((f + 5 * i) % 26) 0 = smallL.getD ((f + 5 * j) % 26) 0 := by simpa using e
  have e := small_inj _ (Nat.mod_lt _ (by decide)) _ (Nat.mod_lt _ (by decide)) e
  omega
end MP
set_option linter.all false
set_option maxRecDepth 100000
set_option maxHeartbeats 8000000
/-! Drawn names: the def. -/
namespace MP
def stemY : List Nat := [97, 101, 109, 114, 116, 122]
def nmE : Ex := (Ex.bin
       (BO.add)
       (Ex.bin
         (BO.add)
         (Ex.slc (Ex.var 2) none (some (Ex.var 3)))
         (Ex.idx
           (Ex.cst
             (Va.str [97, 98, 99, 100, 101, 102, 103, 104, 105, 106, 107, 108, 109, 110, 111, 112, 113, 114, 115, 116, 117, 118, 119, 120, 121, 122]))
           (Ex.bin
             (BO.mod)
             (Ex.blt
               (Bf.int)
               [Ex.bin
                  (BO.add)
                  (Ex.var 4)
                  (Ex.bin (BO.mul) (Ex.cst (Va.int (Int.ofNat 5))) (Ex.var 5))])
             (Ex.cst (Va.int (Int.ofNat 26))))))
       (Ex.slc (Ex.var 2) (some (Ex.var 3)) none))
def namesB (p o : Nat) : List St := [St.asg
   (Tg.var 2)
   (Ex.join
     (Ex.cst (Va.str []))
     (Ex.lc
       (Ex.call o [Ex.var 0, Ex.cst (Va.str [97, 101, 109, 114, 116, 122])])
       (LT.one 5)
       (IK.rng)
       [Ex.call p [Ex.var 0, Ex.cst (Va.int (Int.ofNat 8))]]
       []
       [5])),
 St.par
   [Tg.var 3, Tg.var 4]
   [Ex.call p [Ex.var 0, Ex.bin (BO.add) (Ex.lenI (Ex.var 2)) (Ex.cst (Va.int (Int.ofNat 1)))],
    Ex.call p [Ex.var 0, Ex.cst (Va.int (Int.ofNat 26))]],
 St.ret (Ex.lc nmE (LT.one 5) (IK.rng) [Ex.var 1] [] [5])]
section
variable {T : Tb} {O : Orc} {p o : Nat} {A : List Int} {q b : Nat} {n : Nat}
theorem allStr_sing : ∀ xs : List Nat, allStr (Sing xs) = some (xs.map fun c => [c])
  | [] => rfl
  | c :: xs => by
    show (match allStr (Sing xs) with
      | some ys => some ([c] :: ys)
      | none => none) = _
    rw [allStr_sing xs]
    rfl
theorem sumLen_sing : ∀ xs : List Nat, sumLen (xs.map fun c => [c]) = xs.length
  | [] => rfl
  | c :: xs => by
    show 1 + sumLen (xs.map fun c => [c]) = xs.length + 1
    rw [sumLen_sing xs]
    omega
theorem joinT_sing : ∀ xs : List Nat, joinT [] (xs.map fun c => [c]) = xs
  | [] => rfl
  | c :: xs => by
    show [] ++ ([c] ++ joinT [] (xs.map fun c => [c])) = _
    rw [joinT_sing xs]
    rfl
theorem joinS_sing (xs : List Nat) : joinS [] (xs.map fun c => [c]) = xs := by
  cases xs with
  | nil => rfl
  | cons c xs =>
    show [c] ++ joinT [] (xs.map fun c => [c]) = _
    rw [joinT_sing xs]
    rfl
theorem join_sing {h : Hv} {d : Nat} {xs : List Nat} (e : h.get d = some (.lst (Sing xs))) (hl : xs.length ≤ 1000) : opJoin (.str []) (.ref d) h = .ok (.str xs) h := by
  unfold opJoin
  dsimp only
  rw [show items h (.ref d) = some (Sing xs) by
    unfold items
    dsimp only
    rw [rd_of_lst e]]
  dsimp only
  rw [allStr_sing]
  dsimp only
  rw [sumLen_sing, joinS_sing, show Nat.ble (xs.length + (xs.map fun c => [c]).length * ([] : List Nat).length) Bnd = true from Nat.ble_eq_true_of_le (by rw [show ([] : List Nat).length = 0 from rfl]; unfold Bnd; omega)]
  rfl
theorem rng_of {r : Int} (h1 : 0 ≤ r) (h2 : r < 1000) : wkOf .rng [.int r] h = some (.rng 0 r.toNat) := by
  show (match i62 r with
    | true => some (Wk.rng 0 r.toNat)
    | false => none) = _
  rw [show i62 r = true by
    unfold i62
    rw [Bool.and_eq_true, decide_eq_true_eq, decide_eq_true_eq]
    omega]
theorem cut_lo {xs : List Nat} {a : Nat} (h : a ≤ xs.length) : cutO xs none (some (Int.ofNat a)) = xs.take a := by
  show (xs.drop 0).take ((match Nat.ble a xs.length with
    | true => a
    | false => xs.length) - 0) = _
  rw [Nat.ble_eq_true_of_le h]
  rfl
theorem cut_hi {xs : List Nat} {a : Nat} (h : a ≤ xs.length) : cutO xs (some (Int.ofNat a)) none = xs.drop a := by
  show (xs.drop (match Nat.ble a xs.length with
    | true => a
    | false => xs.length)).take (xs.length - (match Nat.ble a xs.length with
    | true => a
    | false => xs.length)) = _
  rw [Nat.ble_eq_true_of_le h]
  show (xs.drop a).take (xs.length - a) = _
  rw [List.take_of_length_le (by rw [List.length_drop]; omega)]
theorem ev_slc' {s : Fr} {h : Hv} {a : Ex} {lo hi : Option Ex} : (evs T O (n + 1)).e s (.slc a lo hi) h = ((evs T O n).e s a h).bind fun x h1 => (evO ((evs T O n).e s) lo h1).bind fun l h2 => (evO ((evs T O n).e s) hi h2).bind fun u h3 => opSlc x l u h3 := rfl
theorem slc_str {h : Hv} {x : List Nat} {lo hi : Option Int} (hx : x.length ≤ 1000) : opSlc (.str x) lo hi h = .ok (.str (cutO x lo hi)) h := by
  show gd (Nat.ble x.length Bnd) (Rs.ok (Va.str (cutO x lo hi)) h) = _
  rw [Nat.ble_eq_true_of_le (by unfold Bnd; omega)]
  rfl
theorem add_str {h : Hv} {x y : List Nat} (hx : x.length + y.length ≤ 1000) : opBin .add (.str x) (.str y) h = .ok (.str (x ++ y)) h := by
  show gd (Nat.ble (x.length + y.length) Bnd) (Rs.ok (Va.str (x ++ y)) h) = _
  rw [Nat.ble_eq_true_of_le (by unfold Bnd; omega)]
  rfl
theorem idx_small {h : Hv} {j : Nat} (hj : j < 26) : opIdx (.str smallL) (.int (Int.ofNat j)) h = .ok (.str [smallL.getD j 0]) h := by
  unfold opIdx
  dsimp only
  rw [show ixO smallL.length (Int.ofNat j) = some j by
    show (match Nat.blt j 26 with
    | true => some j
    | false => none) = _
    rw [show Nat.blt j 26 = true from Nat.ble_eq_true_of_le hj]]
  rw [show getO smallL (some j) = some (smallL.getD j 0) by
    show smallL[j]? = _
    rw [List.getD_eq_getElem?_getD, List.getElem?_eq_getElem (show j < smallL.length from hj)]
    rfl]
  rfl
theorem nmE_ok {h : Hv} {st : List Nat} {a f k : Nat} {s0 : Fr} {v0 v1 : Option Va} (hl : st.length ≤ 7) (ha : a ≤ st.length) (hf : f < 26) (hk : k < 26) : (evs T O (n + 9)).e [v0, v1, some (.str st), some (.int (Int.ofNat a)), some (.int (Int.ofNat f)), some (.int (0 + (k : Nat)))] nmE h = .ok (.str (nmK st a f k)) h := by
  unfold nmE
  have e5 : (Int.ofNat f + Int.ofNat 5 * (0 + (k : Int))).fmod (Int.ofNat 26) = Int.ofNat ((f + 5 * k) % 26) := by
    rw [show Int.ofNat f + Int.ofNat 5 * (0 + (k : Int)) = Int.ofNat (f + 5 * k) by
      simp only [Int.ofNat_eq_natCast, Int.natCast_add, Int.natCast_mul, Int.zero_add]]
    rw [Int.fmod_eq_emod_of_nonneg _ (by decide)]
    rfl
  have m5 : (i64 (Int.ofNat 5) || i64 (0 + (k : Int))) = true := by
    rw [show i64 (Int.ofNat 5) = true by decide]
    rfl
  simp only [ev_bin, ev_slc', ev_var, getV_0, getV_s, bind_ok', evO, ev_cst, ev_idx, ev_blt, evPs_cons, evPs_nil, mul_int, m5, gd_true, add_int, int_int, mod_int, e5, decide_eq_true (show (Int.ofNat 26) ≠ 0 by decide)]
  rw [slc_str (by omega), bind_ok']
  have ei := idx_small (h := h) (j := (f + 5 * k) % 26) (Nat.mod_lt _ (by decide))
  unfold smallL at ei
  rw [ei, bind_ok', cut_lo ha, add_str (by rw [List.length_take]; simp; omega), bind_ok', slc_str (by omega), bind_ok', cut_hi ha, add_str (by rw [List.length_append, List.length_take, List.length_drop]; simp; omega)]
  rfl
theorem pull_ev (Dw : Drw T O p o A q b) {s : Fr} {h : Hv} {e : Ex} {m : Int} (hb : s[0]? = some (some (.ref b))) (he : (evs T O n).e s e h = .ok (.int m) h) (H : Has A q b h) (h1 : 0 < m) (h2 : m < 1073741824) (hn : ∃ j, n = j + 1) :
    ∃ h' r, (evs T O (n + 1)).e s (.call p [.var 0, e]) h = .ok (.int r) h' ∧ Has A q b h' ∧ Mv b h h' ∧ 0 ≤ r ∧ r < m := by
  obtain ⟨h', r, k1, k2⟩ := Dw.pull h m H h1 h2
  obtain ⟨j, rfl⟩ := hn
  refine ⟨h', r, ?_, k2⟩
  have e0 : (evs T O (j + 1)).e s (.var 0) h = .ok (.ref b) h := by
    rw [ev_var]
    unfold getV
    rw [hb]
  rw [ev_call, evPs_cons, e0, bind_ok', evPs_cons, he, bind_ok', evPs_nil, bind_ok', bind_ok', bind_ok', k1]
theorem stem_s {Y : List Nat} (h : ∀ c ∈ Y, c ∈ smallL) {xs : List Nat} (hx : ∀ c ∈ xs, c ∈ Y) : ∀ c ∈ xs, c ∈ smallL := fun c hc => h c (hx c hc)
theorem ev_lc2 {e : Ex} {t : LT} {k : IK} {it ifs : List Ex} {ws : List Nat} {vs : List Va} {h h1 h2 : Hv} {w : Wk} {s : Fr} {v : Va} (e1 : evPs ((evs T O n).e s) it h = .ok vs h1) (e2 : wkOf k vs h1 = some w)
    (e3 : evL w t (fun s2 h2 => evC ((evs T O n).t s2) ifs h2) (fun s2 h2 => (evs T O n).e s2 e h2) (wp s ws) h1.n w.len 0 (h1.new (.lst [])) = .ok v h2) : (evs T O (n + 1)).e s (.lc e t k it ifs ws) h = .ok v h2 := (ev_lc e1 e2).trans e3
theorem one_ev {s : Fr} {e : Ex} {h h1 : Hv} {v : Va} (k : (evs T O n).e s e h = .ok v h1) : evPs ((evs T O n).e s) [e] h = .ok [v] h1 := by
  rw [evPs_cons, k, bind_ok', evPs_nil, bind_ok']
theorem two_ev {s : Fr} {e e2 : Ex} {h h1 h2 : Hv} {v v2 : Va} (k : (evs T O n).e s e h = .ok v h1) (k2 : (evs T O n).e s e2 h1 = .ok v2 h2) : evPs ((evs T O n).e s) [e, e2] h = .ok [v, v2] h2 := by
  rw [evPs_cons, k, bind_ok', one_ev k2, bind_ok']
theorem join_ev {s : Fr} {e : Ex} {h h2 : Hv} {d : Nat} {xs : List Nat} (k : (evs T O (n + 1)).e s e h = .ok (.ref d) h2) (g : h2.get d = some (.lst (Sing xs))) (l : xs.length ≤ 1000) : (evs T O (n + 2)).e s (.join (.cst (.str [])) e) h = .ok (.str xs) h2 := by
  rw [ev_join, ev_cst, bind_ok', show isStrB (.str []) = true from rfl, gd_true, k, bind_ok', join_sing g l]
theorem asg_ev {s : Fr} {i : Nat} {e : Ex} {h h1 : Hv} {v : Va} (k : (evs T O n).e s e h = .ok v h1) : (evs T O (n + 1)).s s (.asg (.var i) e) h = .nx (s.set i (some v)) h1 := by
  rw [es_asg, k, st_ok, asgT_var]
theorem par_ev {s : Fr} {i j : Nat} {e e2 : Ex} {h h1 : Hv} {v v2 : Va} (k : evPs ((evs T O n).e s) [e, e2] h = .ok [v, v2] h1) : (evs T O (n + 1)).s s (.par [.var i, .var j] [e, e2]) h = .nx ((s.set i (some v)).set j (some v2)) h1 := by
  rw [es_par, k, st_ok]
  rfl
theorem ret_ev {s : Fr} {e : Ex} {h h1 : Hv} {v : Va} (k : (evs T O n).e s e h = .ok v h1) : (evs T O (n + 1)).s s (.ret e) h = .rt v h1 := by
  rw [es_ret, k, st_ok]
theorem three_st {ev : Fr → St → Hv → RS} {a c d : St} {s s1 s2 : Fr} {h h1 h2 h3 : Hv} {v : Va} (k1 : ev s a h = .nx s1 h1) (k2 : ev s1 c h1 = .nx s2 h2) (k3 : ev s2 d h2 = .rt v h3) : endOf (evB ev [a, c, d] s h) = .ok v h3 := by
  rw [evB_cons, k1, nxt_nx, evB_cons, k2, nxt_nx, evB_cons, k3, nxt_rt]
  rfl
theorem names_ok {f cnt : Nat} {h : Hv} (Dw : Drw (T.at (T.lv f)) O p o A q b) (H : Has A q b h) (hc : cnt ≤ 26) :
    ∃ h' st a f26, runB T O f (n + 20) 6 (namesB p o) [.ref b, .int (Int.ofNat cnt)] h = .ok (.ref (h.n + 1)) h' ∧ Has A q b h' ∧ h'.n = h.n + 2 ∧ h'.get (h.n + 1) = some (.lst ((List.range cnt).map fun k => .str (nmK st a f26 k))) ∧ (∀ x, x < h.n → x ≠ b → h'.get x = h.get x) ∧ st.length ≤ 7 ∧ (∀ c ∈ st, c ∈ smallL) ∧ a ≤ st.length ∧ f26 < 26 := by
  -- the stem
  obtain ⟨h1, r1, k1, H1, m1, p1, p2⟩ := pull_ev (n := n + 16) (e := .cst (.int (Int.ofNat 8))) (s := [some (.ref b), some (.int (Int.ofNat cnt)), none, none, none, none]) Dw rfl rfl H (by decide) (by decide) ⟨_, rfl⟩
  have p2 : r1 < 8 := p2
  have h1n : h1.n = h.n := m1.n
  have db : h1.n ≠ b := Nat.ne_of_gt H1.lb
  have dq : h1.n ≠ q := Nat.ne_of_gt H1.lq
  have H2 : Has A q b (h1.new (.lst [])) := H1.keep (Nat.le_succ _) fun a ha => by
    rw [Hv.get_new, if_neg (ha.elim (fun k => k ▸ Ne.symm dq) fun k => k ▸ Ne.symm db)]
  obtain ⟨h2, st, e2, H3, g2, l2, c2, n2, s2⟩ := stem_loop (s0 := wp [some (.ref b), some (.int (Int.ofNat cnt)), none, none, none, none] [5]) (j := 5) (cnt := r1.toNat) (d := h1.n) (Y := [97, 101, 109, 114, 116, 122]) (cs := fun s2 h2 => evC ((evs (T.at (T.lv f)) O (n + 17)).t s2) [] h2) (el := fun s2 h2 => (evs (T.at (T.lv f)) O (n + 17)).e s2 (.call o [.var 0, .cst (.str [97, 101, 109, 114, 116, 122])]) h2) Dw (by decide) (by decide) (fun _ _ => rfl) (fun _ _ => rfl) db dq (by omega) r1.toNat 0 [] (h1.new (.lst [])) H2 (by rw [Hv.get_new, if_pos rfl]; rfl) (by omega) rfl (fun c hc => by cases hc)
  have l2 : st.length ≤ 7 := by omega
  have e3 := asg_ev (i := 2) (join_ev (ev_lc2 (ifs := []) (ws := [5]) (one_ev k1) (rng_of (h := h1) p1 (by omega)) e2) g2 (by omega))
  -- the place, the first letter
  have e4 : (evs (T.at (T.lv f)) O (n + 18)).e [some (.ref b), some (.int (Int.ofNat cnt)), some (.str st), none, none, none] (.bin .add (.lenI (.var 2)) (.cst (.int (Int.ofNat 1)))) h2 = .ok (.int (st.length + 1)) h2 := by
    rw [ev_bin, ev_lenI, ev_var, getV_s, getV_s, getV_0, bind_ok', len_str (by unfold Bnd; omega), bind_ok', ev_cst, bind_ok', add_int]
    rfl
  obtain ⟨h3, r3, k3, H4, m3, q1, q2⟩ := pull_ev (n := n + 18) (s := [some (.ref b), some (.int (Int.ofNat cnt)), some (.str st), none, none, none]) Dw rfl e4 H3 (by omega) (by omega) ⟨_, rfl⟩
  obtain ⟨h4, r4, k4, H5, m4, w1, w2⟩ := pull_ev (n := n + 18) (e := .cst (.int (Int.ofNat 26))) (s := [some (.ref b), some (.int (Int.ofNat cnt)), some (.str st), none, none, none]) Dw rfl rfl H4 (by decide) (by decide) ⟨_, rfl⟩
  have w2 : r4 < 26 := w2
  obtain ⟨a3, rfl⟩ := Int.eq_ofNat_of_zero_le q1
  obtain ⟨f4, rfl⟩ := Int.eq_ofNat_of_zero_le w1
  have la : a3 ≤ st.length := by omega
  have lf : f4 < 26 := by omega
  have e5 := par_ev (i := 3) (j := 4) (two_ev k3 k4)
  -- the names
  obtain ⟨h5, e6, g5, n5, s5⟩ := list_loop (s0 := wp [some (.ref b), some (.int (Int.ofNat cnt)), some (.str st), some (.int (Int.ofNat a3)), some (.int (Int.ofNat f4)), none] [5]) (j := 5) (cnt := cnt) (d := h4.n) (nm := fun k => .str (nmK st a3 f4 k)) (cs := fun s2 h2 => evC ((evs (T.at (T.lv f)) O (n + 9 + 9)).t s2) [] h2) (el := fun s2 h2 => (evs (T.at (T.lv f)) O (n + 9 + 9)).e s2 nmE h2) (fun _ _ => rfl) (fun i h hi => nmE_ok (s0 := []) l2 la lf (by omega)) (by omega) cnt 0 (h4.new (.lst [])) (by rw [Hv.get_new, if_pos rfl]; rfl) (by omega)
  have n2' : h2.n = h.n + 1 := by rw [n2]; show h1.n + 1 = _; omega
  have n4' : h4.n = h.n + 1 := by rw [m4.n, m3.n, n2']
  have db4 : h4.n ≠ b := Nat.ne_of_gt H5.lb
  have dq4 : h4.n ≠ q := Nat.ne_of_gt H5.lq
  have v1 : (evs (T.at (T.lv f)) O (n + 9 + 9)).e [some (.ref b), some (.int (Int.ofNat cnt)), some (.str st), some (.int (Int.ofNat a3)), some (.int (Int.ofNat f4)), none] (.var 1) h4 = .ok (.int (Int.ofNat cnt)) h4 := by
    rw [ev_var, getV_s, getV_0]
  have e7 := ret_ev (ev_lc2 (ifs := []) (ws := [5]) (one_ev v1) (rng_of (h := h4) (Int.natCast_nonneg _) (show ((cnt : Nat) : Int) < 1000 by omega)) e6)
  refine ⟨h5, st, a3, f4, ?_, H5.keep (by rw [n5]; exact Nat.le_succ _) (fun a ha => ?_), by rw [n5]; show h4.n + 1 = _; omega, by rw [← n4']; exact g5, fun x hx ne => ?_, l2, stem_s (by decide) c2, la, lf⟩
  · rw [← n4']
    exact three_st e3 e5 e7
  · rw [s5 a (ha.elim (fun k => k ▸ Ne.symm dq4) fun k => k ▸ Ne.symm db4), Hv.get_new, if_neg (ha.elim (fun k => k ▸ Ne.symm dq4) fun k => k ▸ Ne.symm db4)]
  · rw [s5 x (by omega), Hv.get_new, if_neg (by omega), m4.get x ne, m3.get x ne, s2 x ne (by omega), Hv.get_new, if_neg (by omega), m1.get x ne]
end
end MP
set_option linter.all false
set_option maxRecDepth 100000
set_option maxHeartbeats 8000000
/-! The draws as they are called. -/
namespace MP
def ofB (p : Nat) : List St := [St.ret (Ex.idx (Ex.var 1) (Ex.call p [Ex.var 0, Ex.lenI (Ex.var 1)]))]
section
variable {T : Tb} {O : Orc} {p o : Nat} {A : List Int} {q b : Nat} {n : Nat}
theorem pull_has {f : Nat} {h : Hv} {m : Int} (H : Has A q b h) (h1 : 0 < m) (h2 : m < 1073741824) : ∃ h' r, runB T O f (n + 29) 5 pullB [.ref b, .int m] h = .ok (.int r) h' ∧ Has A q b h' ∧ Mv b h h' ∧ 0 ≤ r ∧ r < m := by
  obtain ⟨i, g, z, t, e, k1, k2, k3, k4⟩ := H.bag
  obtain ⟨i', g', z', t', r, e1, l1, l2, l3, l4, l5, l6⟩ := pull_ok (T := T) (O := O) (f := f) (n := n) e H.cel H.ne k1 k2 ⟨k3, k4⟩ ⟨h1, h2⟩
  refine ⟨_, r, e1, ⟨⟨i', g', z', t', get_set_same, l1, l2, l3, l4⟩, ?_, H.ne, H.lq, H.lb⟩, .set, l5, l6⟩
  rw [rd_set_ne H.ne]
  exact H.cel
/-- the pull alone -/
def Pul (T : Tb) (O : Orc) (p : Nat) (A : List Int) (q b : Nat) : Prop := ∀ h m, Has A q b h → 0 < m → m < 1073741824 → ∃ h' r, callF T O 0 p [.ref b, .int m] h = .ok (.int r) h' ∧ Has A q b h' ∧ Mv b h h' ∧ 0 ≤ r ∧ r < m
theorem pul_ev (P : Pul T O p A q b) {s : Fr} {h : Hv} {e : Ex} {m : Int} (i : Nat) (hb : s[i]? = some (some (.ref b))) (he : (evs T O (n + 1)).e s e h = .ok (.int m) h) (H : Has A q b h) (h1 : 0 < m) (h2 : m < 1073741824) :
    ∃ h' r, (evs T O (n + 2)).e s (.call p [.var i, e]) h = .ok (.int r) h' ∧ Has A q b h' ∧ Mv b h h' ∧ 0 ≤ r ∧ r < m := by
  obtain ⟨h', r, k1, k2⟩ := P h m H h1 h2
  refine ⟨h', r, ?_, k2⟩
  have e0 : (evs T O (n + 1)).e s (.var i) h = .ok (.ref b) h := by
    rw [ev_var]
    unfold getV
    rw [hb]
  rw [ev_call, two_ev e0 he, bind_ok', k1]
theorem of_str {f : Nat} {h : Hv} {y : List Nat} (P : Pul (T.at (T.lv f)) O p A q b) (H : Has A q b h) (ne : y ≠ []) (hy : y.length < 1000) : ∃ h' c, runB T O f (n + 6) 2 (ofB p) [.ref b, .str y] h = .ok (.str [c]) h' ∧ Has A q b h' ∧ Mv b h h' ∧ c ∈ y := by
  have ev1 : (evs (T.at (T.lv f)) O (n + 3)).e [some (.ref b), some (.str y)] (.lenI (.var 1)) h = .ok (.int y.length) h := by
    rw [ev_lenI, ev_var, getV_s, getV_0, bind_ok', len_str (by unfold Bnd; omega)]
  have l0 : 0 < y.length := List.length_pos_iff.mpr ne
  obtain ⟨h', r, k1, k2, k3, k4, k5⟩ := pul_ev (n := n + 2) P 0 (s := [some (.ref b), some (.str y)]) rfl ev1 H (by omega) (by omega)
  obtain ⟨j, rfl⟩ := Int.eq_ofNat_of_zero_le k4
  have hj : j < y.length := by omega
  refine ⟨h', y[j], ?_, k2, k3, List.getElem_mem hj⟩
  show endOf (evB (evs (T.at (T.lv f)) O (n + 5 + 1)).s (ofB p) [some (.ref b), some (.str y)] h) = _
  unfold ofB
  rw [evB_cons, ret_ev (v := .str [y[j]]) (h1 := h'), nxt_rt]
  · rfl
  · rw [ev_idx, ev_var, getV_s, getV_0, bind_ok', k1, bind_ok']
    unfold opIdx
    dsimp only
    rw [Nat.ble_eq_true_of_le (show y.length ≤ Bnd by unfold Bnd; omega), gd_true]
    rw [show ixO y.length (j : Int) = some j by
      show (match Nat.blt j y.length with
      | true => some j
      | false => none) = _
      rw [show Nat.blt j y.length = true from Nat.ble_eq_true_of_le hj]]
    rw [show getO y (some j) = some y[j] from List.getElem?_eq_getElem hj]
theorem of_lst {f a : Nat} {h : Hv} {xs : List Va} (P : Pul (T.at (T.lv f)) O p A q b) (H : Has A q b h) (g : h.get a = some (.lst xs)) (hab : a ≠ b) (ne : xs ≠ []) (hy : xs.length < 1000) : ∃ h' v, runB T O f (n + 6) 2 (ofB p) [.ref b, .ref a] h = .ok v h' ∧ Has A q b h' ∧ Mv b h h' ∧ v ∈ xs := by
  have ev1 : (evs (T.at (T.lv f)) O (n + 3)).e [some (.ref b), some (.ref a)] (.lenI (.var 1)) h = .ok (.int xs.length) h := by
    rw [ev_lenI, ev_var, getV_s, getV_0, bind_ok']
    unfold vLenI
    dsimp only
    rw [g]
    dsimp only
    unfold bLen
    dsimp only
    rw [rd_of_lst g]
  have l0 : 0 < xs.length := List.length_pos_iff.mpr ne
  obtain ⟨h', r, k1, k2, k3, k4, k5⟩ := pul_ev (n := n + 2) P 0 (s := [some (.ref b), some (.ref a)]) rfl ev1 H (by omega) (by omega)
  obtain ⟨j, rfl⟩ := Int.eq_ofNat_of_zero_le k4
  have hj : j < xs.length := by omega
  refine ⟨h', xs[j], ?_, k2, k3, List.getElem_mem hj⟩
  show endOf (evB (evs (T.at (T.lv f)) O (n + 5 + 1)).s (ofB p) [some (.ref b), some (.ref a)] h) = _
  unfold ofB
  rw [evB_cons, ret_ev (v := xs[j]) (h1 := h'), nxt_rt]
  · rfl
  · rw [ev_idx, ev_var, getV_s, getV_0, bind_ok', k1, bind_ok', idx_lst (rd_of_lst ((k3.get a hab).trans g))]
    rw [show ixO xs.length (j : Int) = some j by
      show (match Nat.blt j xs.length with
      | true => some j
      | false => none) = _
      rw [show Nat.blt j xs.length = true from Nat.ble_eq_true_of_le hj]]
    rw [show getO xs (some j) = some xs[j] from List.getElem?_eq_getElem hj]
    rfl
end
end MP
set_option linter.all false
set_option maxRecDepth 100000
set_option maxHeartbeats 8000000
/-! A compiled block taken apart. -/
namespace MP
open PySem PySem.Spec PyProof.Rows L2 NdefX
theorem mapO_inv {α β : Type} {f : α → Option β} : ∀ {l : List α} {y : β} {ys : List β}, mapO f l = some (y :: ys) → ∃ a l', l = a :: l' ∧ f a = some y ∧ mapO f l' = some ys
  | [], _, _, h => by cases h
  | a :: l, y, ys, h => by
    obtain ⟨y', ys', e1, e2, e⟩ := mapO_cons h
    cases e
    exact ⟨a, l, rfl, e1, e2⟩
theorem mapO_nil {α β : Type} {f : α → Option β} : ∀ {l : List α}, mapO f l = some [] → l = []
  | [], _ => rfl
  | a :: l, h => by
    obtain ⟨y', ys', e1, e2, e⟩ := mapO_cons h
    cases e
theorem cSs_inv {c m : Nat} {S : CS} {b : List Stmt} {y : St} {ys : List St} (h : cSs c (m + 1) S b = some (y :: ys)) : ∃ st b', b = st :: b' ∧ cSt (cSs c m) c S st = some y ∧ cSs c (m + 1) S b' = some ys :=
  mapO_inv (f := cSt (cSs c m) c S) h
theorem cSs_nil {c m : Nat} {S : CS} {b : List Stmt} (h : cSs c (m + 1) S b = some []) : b = [] := mapO_nil (f := cSt (cSs c m) c S) h
end MP
set_option linter.all false
set_option maxRecDepth 100000
set_option maxHeartbeats 8000000
/-! Runs of some statements, what is kept of them; drawn names as drawn texts. -/
namespace MP
open PySem PySem.Spec PyProof.Rows L2 NdefX
theorem nxt_inv {x : RS} {k : Fr → Hv → RS} {s : Fr} {h : Hv} (e : x.nxt k = .nx s h) : ∃ s1 h1, x = .nx s1 h1 ∧ k s1 h1 = .nx s h := by
  cases x with
  | nx s1 h1 => exact ⟨s1, h1, rfl, e⟩
  | rt v h1 => cases e
  | bk s1 h1 => cases e
  | ct s1 h1 => cases e
  | ex c f s1 h1 => cases e
  | no => cases e
section
variable {T : Tb} {M : Wd} {O : Orc} {X : Cx} {W : WX} {S : CS} {D : Ends}
/-- the first statements, from the small run; then the others -/
theorem Wp.pre {c m : Nat} (ok : CSok T M O S X W) (hsc : X.env.scope = S.sc) (hp : PassesOwn (model X.prog X.w) X.A X.env X.xe) (n : Nat) {rest : List Stmt} {s' : Fr} {h' : Hv} : ∀ {pre : List Stmt} {xs : List St}, mapO (cSt (cSs c m) c S) pre = some xs → ∀ {r : List Addr} {s : Fr} {h : Hv} {σ : L2.St} {H : Hp},
    RF M r s σ → Emb M r h H → evB (evs T O n).s xs s h = .nx s' h' → (∀ r' σ' H', Gro M r H h' r' H' → RF M r' s' σ' → Wp X rest D σ' H') → Wp X (pre ++ rest) D σ H := fun {pre xs} => by
  induction pre generalizing xs with
  | nil =>
    intro hx r s h σ H hs he e q
    cases hx
    cases e
    exact q r σ H (Gro.refl he) hs
  | cons st pre ih =>
    intro hx r s h σ H hs he e q
    obtain ⟨y, ys, e1, e2, rfl⟩ := mapO_cons hx
    obtain ⟨s1, h1, k1, k2⟩ := nxt_inv (show ((evs T O n).s s y h).nxt (fun s1 h1 => evB (evs T O n).s ys s1 h1) = .nx s' h' from e)
    exact Wp.cons (Wp1.run ok hsc hp e1 n hs he k1 fun r1 σ1 H1 g1 hs1 => ih e2 hs1 g1.emb k2 fun r2 σ2 H2 g2 hs2 => q r2 σ2 H2 (g1.trans g2) hs2)
end
/-! ### what is kept -/
def idxs {α : Type} : Nat → List (Option α) → List Nat
  | _, [] => []
  | b, none :: r => idxs (b + 1) r
  | b, some _ :: r => b :: idxs (b + 1) r
theorem getAll {α β : Type} (f : Nat → β) (g : α → β) : ∀ (os : List (Option α)) (b : Nat), (idxs b os).map f = (os.filterMap id).map g → ∀ i o, os[i]? = some (some o) → f (b + i) = g o
  | [], _, _, i, o, e => by cases e
  | none :: r, b, h, i, o, e => by
    cases i with
    | zero => cases e
    | succ i =>
      have := getAll f g r (b + 1) h i o e
      rw [show b + (i + 1) = b + 1 + i by omega]
      exact this
  | some x :: r, b, h, i, o, e => by
    have h : f b :: (idxs (b + 1) r).map f = g x :: (r.filterMap id).map g := h
    obtain ⟨h1, h2⟩ := List.cons.inj h
    cases i with
    | zero =>
      cases e
      exact h1
    | succ i =>
      have := getAll f g r (b + 1) h2 i o e
      rw [show b + (i + 1) = b + 1 + i by omega]
      exact this
/-- what is wanted of a run: some slots, some places -/
def kpj (n : Nat) (is ks : List Nat) (r : RS) : Option (List (Option (Option Va)) × List (Option Ob) × Nat × Bool) := match r with
  | .nx s h => some (is.map fun i => s[i]?, ks.map fun a => h.get a, s.length, Nat.ble n h.n)
  | _ => none
theorem kpj_nx {n : Nat} {is ks : List Nat} {r : RS} {sl : List (Option (Option Va))} {ol : List (Option Ob)} {l : Nat} (e : kpj n is ks r = some (sl, ol, l, true)) : ∃ s h, r = .nx s h ∧ (is.map fun i => s[i]?) = sl ∧ (ks.map fun a => h.get a) = ol ∧ s.length = l ∧ n ≤ h.n := by
  cases r with
  | nx s h =>
    have e := Option.some.inj e
    obtain ⟨e1, e2⟩ := Prod.mk.inj e
    obtain ⟨e2, e3⟩ := Prod.mk.inj e2
    obtain ⟨e3, e4⟩ := Prod.mk.inj e3
    exact ⟨s, h, rfl, e1, e2, e3, Nat.le_of_ble_eq_true e4⟩
  | rt v h1 => cases e
  | bk s1 h1 => cases e
  | ct s1 h1 => cases e
  | ex c f s1 h1 => cases e
  | no => cases e
def cloF (n : Nat) (s : Fr) : Bool := s.all fun o => match o with
  | some v => cloV n v
  | none => true
/-- the state told by frame and objects -/
def StO (M : Wd) (os : List (Option Ob)) (s : Fr) (σ : L2.St) (H : Hp) : Prop := ∃ r, RF M r s σ ∧ Emb M r (ofO os) H
theorem StO.mk {M M' : Wd} (w : SameW M M') {r : List Addr} {s s' : Fr} {h : Hv} {σ : L2.St} {H : Hp} {os : List (Option Ob)} (hs : RF M r s σ) (he : Emb M r h H) (hn : os.length ≤ h.n) (ho : (idxs 0 os).map (fun a => h.get a) = (os.filterMap id).map some) (hc : clos os = true)
    (hl : s'.length = s.length) (hf : (idxs 0 s').map (fun i => s[i]?) = (s'.filterMap id).map fun v => some (some v)) (hcf : cloF os.length s' = true) : StO M' os s' σ H := by
  refine ⟨_, hs.sub w hl fun i v e => ?_, he.cut w os hn (fun i o e => ?_) hc⟩
  · refine ⟨?_, ?_⟩
    · have := getAll (fun i => s[i]?) (fun v => some (some v)) s' 0 hf i v e
      rw [Nat.zero_add] at this
      exact this
    · have := List.all_eq_true.mp hcf _ (List.mem_of_getElem? e)
      exact this
  · have := getAll (fun a => h.get a) some os 0 ho i o e
    rw [Nat.zero_add] at this
    exact this
/-- behind a run -/
theorem StO.run {M M' : Wd} (w : SameW M M') {r : List Addr} {s' : Fr} {s : Fr} {h : Hv} {σ : L2.St} {H H0 : Hp} {r0 : List Addr} {os : List (Option Ob)} (g : Gro M r0 H0 h r H) (hs : RF M r s σ) (hn : os.length ≤ h.n) (ho : (idxs 0 os).map (fun a => h.get a) = (os.filterMap id).map some) (hc : clos os = true)
    (hl : s'.length = s.length) (hf : (idxs 0 s').map (fun i => s[i]?) = (s'.filterMap id).map fun v => some (some v)) (hcf : cloF os.length s' = true) : StO M' os s' σ H := StO.mk w hs g.emb hn ho hc hl hf hcf
/-! ### the drawn names as drawn texts -/
theorem toArr_inj {x y : List Nat} (e : (⟨x.toArray⟩ : Str) = ⟨y.toArray⟩) : x = y := by
  have e : x.toArray = y.toArray := congrArg Str.cps e
  simpa using e
theorem okNm_lay {x : List Nat} (h : okNm x = true) : (x.all fun c => Nat.blt c 1114112) = true := by
  unfold okNm at h
  rw [Bool.and_eq_true] at h
  rw [List.all_eq_true]
  intro c hc
  obtain ⟨z, h1, h2⟩ := List.any_eq_true.mp (List.all_eq_true.mp h.2 c hc)
  rw [Nat.eq_of_beq_eq_true h2]
  have : smallL.all (fun c => Nat.blt c 1114112) = true := by decide
  exact List.all_eq_true.mp this z h1
/-- names by their numbers -/
def tkN (N : Nat) (nm : Nat → List Nat) (inj : ∀ i j, i < N → j < N → nm i = nm j → i = j) (ok : ∀ i, i < N → okNm (nm i) = true) (tbs : List (Addr × Str)) : Toks where
  nt := N
  tk := fun k => ⟨(nm k).toArray⟩
  tinj := fun i j hi hj e => inj i j hi hj (toArr_inj e)
  tlay := fun i hi => by simpa using okNm_lay (ok i hi)
  tbs := tbs
theorem tkN_good {N : Nat} {nm : Nat → List Nat} {inj : ∀ i j, i < N → j < N → nm i = nm j → i = j} {ok : ∀ i, i < N → okNm (nm i) = true} {tbs : List (Addr × Str)} : GoodT (tkN N nm inj ok tbs) := fun k hk => by
  have : (tkN N nm inj ok tbs).tk k = ⟨(nm k).toArray⟩ := rfl
  rw [this]
  exact ok k hk
def t0 (tbs : List (Addr × Str)) : Toks := { Toks.nil with tbs := tbs }
theorem t0_good {tbs : List (Addr × Str)} : GoodT (t0 tbs) := fun k hk => absurd hk (Nat.not_lt_zero _)
/-- a list of the names, read as drawn texts -/
theorem names_re {M M' : Wd} {r r' : List Addr} {N : Nat} {nm : Nat → List Nat} (hN : M'.nt = N) (hk : ∀ k, M'.tk k = ⟨(nm k).toArray⟩) {u : HO} (z : RO M r (.lst ((List.range N).map fun k => .str (nm k))) u) : RO M' r' (.lst ((List.range N).map Va.tok)) u := by
  obtain ⟨ys, e, q⟩ := z
  refine ⟨ys, e, ?_⟩
  have go : ∀ (l : List Nat), (∀ k ∈ l, k < N) → ∀ ys, RVs M r (l.map fun k => .str (nm k)) ys → RVs M' r' (l.map Va.tok) ys := fun l => by
    induction l with
    | nil =>
      intro _ ys q
      cases q
      exact .nil
    | cons k l ih =>
      intro hl ys q
      cases q with
      | cons z t =>
        refine .cons ⟨by rw [hN]; exact hl k List.mem_cons_self, ?_⟩ (ih (fun k hk => hl k (List.mem_cons_of_mem _ hk)) _ t)
        rw [hk]
        exact z
  exact go _ (fun k hk => List.mem_range.mp hk) ys q
end MP
set_option linter.all false
set_option maxRecDepth 100000
set_option maxHeartbeats 0
namespace MP.K59
open PySem PySem.Spec PyProof.Rows L2 NdefX
def top (i : Nat) : Stmt := PySem.Challenge.pw_coinroads_k59_limits_of_yards.main.body.getD i (.Pass ⟨0, 0, 0, 0⟩)
def cbody : Stmt → List Stmt
  | .ClassDef _ _ _ b _ _ _ _ _ _ _ => b
  | _ => []
def met (i j : Nat) : Stmt := (cbody (top i)).getD j (.Pass ⟨0, 0, 0, 0⟩)
def df1 : DF := ⟨.glo "is_number", "is_number", "is_number", defArgs (top 21), defBody (top 21), defScope (top 21), [], []⟩
def nm1 : List Str := ["value"]
def pr1 : List Str := ["value"]
def bd1 : List St := [St.ret (Ex.and (Ex.isi (Ex.var 0) [TyC.int]) (Ex.not (Ex.isi (Ex.var 0) [TyC.bool])))]
def df2 : DF := ⟨.glo "is_within", "is_within", "is_within", defArgs (top 22), defBody (top 22), defScope (top 22), [], []⟩
def nm2 : List Str := ["value", "least", "most"]
def pr2 : List Str := ["value", "least", "most"]
def bd2 : List St := [St.ret
   (Ex.and (Ex.call 1 [Ex.var 0]) (Ex.chn (CO.le) (CO.le) (Ex.var 1) (Ex.var 0) (Ex.var 2)))]
def df3 : DF := ⟨.glo "is_list", "is_list", "is_list", defArgs (top 23), defBody (top 23), defScope (top 23), [], []⟩
def nm3 : List Str := ["value"]
def pr3 : List Str := ["value"]
def bd3 : List St := [St.ret (Ex.isi (Ex.var 0) [TyC.list, TyC.tuple])]
def df4 : DF := ⟨.glo "are_counts", "are_counts", "are_counts", defArgs (top 24), defBody (top 24), defScope (top 24), [], []⟩
def nm4 : List Str := ["value", "many", "one"]
def pr4 : List Str := ["value", "many"]
def bd4 : List St := [St.ret
   (Ex.and
     (Ex.call 3 [Ex.var 0])
     (Ex.and
       (Ex.cmp (CO.eq) (Ex.lenI (Ex.var 0)) (Ex.var 1))
       (Ex.blt
         (Bf.all)
         [Ex.lc
            (Ex.and
              (Ex.call 1 [Ex.var 2])
              (Ex.cmp (CO.ge) (Ex.var 2) (Ex.cst (Va.int (Int.ofNat 0)))))
            (LT.one 2)
            (IK.it)
            [Ex.var 0]
            []
            [2]])))]
def df5 : DF := ⟨.glo "is_name", "is_name", "is_name", defArgs (top 25), defBody (top 25), defScope (top 25), [], []⟩
def nm5 : List Str := ["value", "sign"]
def pr5 : List Str := ["value"]
def bd5 : List St := [St.ret
   (Ex.and
     (Ex.isi (Ex.var 0) [TyC.str])
     (Ex.and
       (Ex.chn
         (CO.le)
         (CO.le)
         (Ex.cst (Va.int (Int.ofNat 1)))
         (Ex.lenI (Ex.var 0))
         (Ex.cst (Va.int (Int.ofNat 8))))
       (Ex.blt
         (Bf.all)
         [Ex.lc
            (Ex.cmp
              (CO.isin)
              (Ex.var 1)
              (Ex.cst
                (Va.str [97, 98, 99, 100, 101, 102, 103, 104, 105, 106, 107, 108, 109, 110, 111, 112, 113, 114, 115, 116, 117, 118, 119, 120, 121, 122])))
            (LT.one 1)
            (IK.it)
            [Ex.var 0]
            []
            [1]])))]
def df8 : DF := ⟨.glo "check_heap", "check_heap", "check_heap", defArgs (top 29), defBody (top 29), defScope (top 29), [], []⟩
def nm8 : List Str := ["ground", "value"]
def pr8 : List Str := ["ground", "value"]
def bd8 : List St := [St.iff
   (Ex.or
     (Ex.not (Ex.val (Ex.call 4 [Ex.var 1, Ex.fld (Ex.var 0) 0])))
     (Ex.val (Ex.cmp (CO.eq) (Ex.blt (Bf.sum) [Ex.var 1]) (Ex.cst (Va.int (Int.ofNat 0))))))
   [St.rais 6 []]
   []]
def df9 : DF := ⟨.glo "check_table", "check_table", "check_table", defArgs (top 32), defBody (top 32), defScope (top 32), [], []⟩
def nm9 : List Str := ["value", "index", "row"]
def pr9 : List Str := ["value"]
def bd9 : List St := [St.iff
   (Ex.or
     (Ex.not (Ex.val (Ex.call 3 [Ex.var 0])))
     (Ex.val (Ex.cmp (CO.eq) (Ex.lenI (Ex.var 0)) (Ex.cst (Va.int (Int.ofNat 0))))))
   [St.rais 2 [Ex.cst (Va.int (Int.ofNat 0))]]
   [],
 St.for
   (LT.many [1, 2])
   (IK.enm)
   [Ex.var 0]
   [St.iff
      (Ex.or
        (Ex.val (Ex.cmp (CO.ge) (Ex.var 1) (Ex.cst (Va.int (Int.ofNat 12)))))
        (Ex.not (Ex.val (Ex.call 4 [Ex.var 2, Ex.lenI (Ex.var 0)]))))
      [St.rais 2 [Ex.var 1]]
      []]]
def df10 : DF := ⟨.glo "reached", "reached", "reached", defArgs (top 33), defBody (top 33), defScope (top 33), [], []⟩
def nm10 : List Str := ["table", "start", "known", "waiting", "here", "place", "many", "row"]
def pr10 : List Str := ["table", "start"]
def bd10 : List St := [St.asg (Tg.var 2) (Ex.lc (Ex.cst (Va.bl false)) (LT.one 7) (IK.it) [Ex.var 0] [] [7]),
 St.asg (Tg.var 3) (Ex.lst [(false, Ex.var 1)]),
 St.whl
   (Ex.val (Ex.cmp (CO.ne) (Ex.var 3) (Ex.lst [])))
   [St.asg (Tg.var 4) (Ex.bme (Bm.pop) (Ex.var 3) []),
    St.for
      (LT.many [5, 6])
      (IK.enm)
      [Ex.idx (Ex.var 0) (Ex.var 4)]
      [St.iff
         (Ex.and
           (Ex.val (Ex.cmp (CO.gt) (Ex.var 6) (Ex.cst (Va.int (Int.ofNat 0)))))
           (Ex.not (Ex.val (Ex.idx (Ex.var 2) (Ex.var 5)))))
         [St.asg (Tg.sub (Ex.var 2) (Ex.var 5)) (Ex.cst (Va.bl true)),
          St.exp (Ex.bme (Bm.append) (Ex.var 3) [Ex.var 5])]
         []]],
 St.ret
   (Ex.lc
     (Ex.var 5)
     (LT.one 5)
     (IK.rng)
     [Ex.lenI (Ex.var 0)]
     [Ex.val (Ex.idx (Ex.var 2) (Ex.var 5))]
     [5])]
def df11 : DF := ⟨.glo "transposed", "transposed", "transposed", defArgs (top 34), defBody (top 34), defScope (top 34), [], []⟩
def nm11 : List Str := ["table", "at", "row"]
def pr11 : List Str := ["table"]
def bd11 : List St := [St.ret
   (Ex.lc
     (Ex.lc (Ex.idx (Ex.var 2) (Ex.var 1)) (LT.one 2) (IK.it) [Ex.var 0] [] [2])
     (LT.one 1)
     (IK.rng)
     [Ex.lenI (Ex.var 0)]
     []
     [1])]
def df12 : DF := ⟨.glo "check_joined", "check_joined", "check_joined", defArgs (top 35), defBody (top 35), defScope (top 35), [], []⟩
def nm12 : List Str := ["table", "ahead", "behind", "place", "row"]
def pr12 : List Str := ["table"]
def bd12 : List St := [St.par
   [Tg.var 1, Tg.var 2]
   [Ex.call 10 [Ex.var 0, Ex.cst (Va.int (Int.ofNat 0))],
    Ex.call 10 [Ex.call 11 [Ex.var 0], Ex.cst (Va.int (Int.ofNat 0))]],
 St.for
   (LT.one 3)
   (IK.rng)
   [Ex.lenI (Ex.var 0)]
   [St.iff
      (Ex.or
        (Ex.val (Ex.cmp (CO.notin) (Ex.var 3) (Ex.var 1)))
        (Ex.val (Ex.cmp (CO.notin) (Ex.var 3) (Ex.var 2))))
      [St.rais 3 [Ex.var 3]]
      []],
 St.iff
   (Ex.val
     (Ex.blt
       (Bf.all)
       [Ex.lc
          (Ex.cmp (CO.eq) (Ex.blt (Bf.sum) [Ex.var 4]) (Ex.cst (Va.int (Int.ofNat 1))))
          (LT.one 4)
          (IK.it)
          [Ex.var 0]
          []
          [4]]))
   [St.rais 4 []]
   []]
def df13 : DF := ⟨.meth "Map" "__init__", "__init__", "Map.__init__", defArgs (met 36 1), defBody (met 36 1), defScope (met 36 1), [], []⟩
def nm13 : List Str := ["self", "table", "row"]
def pr13 : List Str := ["self", "table"]
def bd13 : List St := [St.exp (Ex.call 9 [Ex.var 1]),
 St.exp (Ex.call 12 [Ex.var 1]),
 St.asgp
   (Ex.var 0)
   1
   (Ex.lc (Ex.blt (Bf.list) [Ex.var 2]) (LT.one 2) (IK.it) [Ex.var 1] [] [2])]
def df14 : DF := ⟨.pget "Map" "places", "places", "Map.places", defArgs (met 36 2), defBody (met 36 2), defScope (met 36 2), [], []⟩
def nm14 : List Str := ["self"]
def pr14 : List Str := ["self"]
def bd14 : List St := [St.ret (Ex.lenI (Ex.fld (Ex.var 0) 1))]
def df16 : DF := ⟨.stat "Map" "bouquet", "bouquet", "Map.bouquet", defArgs (met 36 4), defBody (met 36 4), defScope (met 36 4), [], []⟩
def nm16 : List Str := ["loops"]
def pr16 : List Str := ["loops"]
def bd16 : List St := [St.iff
   (Ex.or
     (Ex.not (Ex.val (Ex.call 1 [Ex.var 0])))
     (Ex.val (Ex.cmp (CO.lt) (Ex.var 0) (Ex.cst (Va.int (Int.ofNat 2))))))
   [St.rais 5 [Ex.var 0]]
   [],
 St.ret (Ex.mk 15 [Ex.lst [(false, Ex.lst [(false, Ex.var 0)])]])]
def df29 : DF := ⟨.meth "Yard" "__init__", "__init__", "Yard.__init__", defArgs (met 39 1), defBody (met 39 1), defScope (met 39 1), [], [("room", (He.Dv.int (Int.ofNat 8)))]⟩
def nm29 : List Str := ["self", "ground", "room"]
def pr29 : List Str := ["self", "ground", "room"]
def bd29 : List St := [St.asgp (Ex.var 0) 2 (Ex.var 1),
 St.asgp (Ex.var 0) 3 (Ex.var 1),
 St.asgp (Ex.var 0) 4 (Ex.lst []),
 St.asgp (Ex.var 0) 5 (Ex.dlt []),
 St.exp (Ex.met (Ex.var 0) 6 [Ex.var 2]),
 St.asgp (Ex.var 0) 7 (Ex.var 2),
 St.asgp (Ex.var 0) 8 (Ex.lst []),
 St.asgp (Ex.var 0) 9 (Ex.lst []),
 St.asgp (Ex.var 0) 10 (Ex.cst (Va.bl false))]
def df30 : DF := ⟨.meth "Yard" "check_limit", "check_limit", "Yard.check_limit", defArgs (met 39 2), defBody (met 39 2), defScope (met 39 2), [], []⟩
def nm30 : List Str := ["self", "value"]
def pr30 : List Str := ["self", "value"]
def bd30 : List St := [St.iff
   (Ex.not
     (Ex.val
       (Ex.call
         2
         [Ex.var 1,
          Ex.blt (Bf.max) [Ex.cst (Va.int (Int.ofNat 1)), Ex.lenI (Ex.fld (Ex.var 0) 5)],
          Ex.cst (Va.int (Int.ofNat 20))])))
   [St.rais 11 [Ex.var 1]]
   []]
def df31 : DF := ⟨.pget "Yard" "room", "room", "Yard.room", defArgs (met 39 3), defBody (met 39 3), defScope (met 39 3), [], []⟩
def nm31 : List Str := ["self"]
def pr31 : List Str := ["self"]
def bd31 : List St := [St.ret (Ex.fld (Ex.var 0) 7)]
def df32 : DF := ⟨.pset "Yard" "room", "room", "Yard.room", defArgs (met 39 4), defBody (met 39 4), defScope (met 39 4), [], []⟩
def nm32 : List Str := ["self", "value"]
def pr32 : List Str := ["self", "value"]
def bd32 : List St := [St.exp (Ex.met (Ex.var 0) 6 [Ex.var 1]), St.asgp (Ex.var 0) 7 (Ex.var 1)]
def df33 : DF := ⟨.meth "Yard" "set_room", "set_room", "Yard.set_room", defArgs (met 39 5), defBody (met 39 5), defScope (met 39 5), [], []⟩
def nm33 : List Str := ["self", "value"]
def pr33 : List Str := ["self", "value"]
def bd33 : List St := [St.asgp (Ex.var 0) 11 (Ex.var 1)]
def df36 : DF := ⟨.meth "Yard" "stand", "stand", "Yard.stand", defArgs (met 39 8), defBody (met 39 8), defScope (met 39 8), [], []⟩
def nm36 : List Str := ["self"]
def pr36 : List Str := ["self"]
def bd36 : List St := [St.ret
   (Ex.tup
     [(false, Ex.fld (Ex.var 0) 3), (false, Ex.fld (Ex.var 0) 4), (false, Ex.fld (Ex.var 0) 5)])]
def df37 : DF := ⟨.meth "Yard" "settle", "settle", "Yard.settle", defArgs (met 39 9), defBody (met 39 9), defScope (met 39 9), [], []⟩
def nm37 : List Str := ["self", "here", "made", "passengers"]
def pr37 : List Str := ["self", "here", "made", "passengers"]
def bd37 : List St := [St.exp (Ex.bme (Bm.append) (Ex.fld (Ex.var 0) 8) [Ex.met (Ex.var 0) 12 []]),
 St.asgp (Ex.var 0) 9 (Ex.lst []),
 St.par
   [Tg.fld (Ex.var 0) 3, Tg.fld (Ex.var 0) 4, Tg.fld (Ex.var 0) 5]
   [Ex.var 1, Ex.var 2, Ex.var 3]]
def df38 : DF := ⟨.meth "Yard" "need_room", "need_room", "Yard.need_room", defArgs (met 39 10), defBody (met 39 10), defScope (met 39 10), [], []⟩
def nm38 : List Str := ["self", "name"]
def pr38 : List Str := ["self", "name"]
def bd38 : List St := [St.iff (Ex.not (Ex.val (Ex.call 5 [Ex.var 1]))) [St.rais 7 [Ex.var 1]] [],
 St.iff
   (Ex.val (Ex.cmp (CO.isin) (Ex.var 1) (Ex.fld (Ex.var 0) 5)))
   [St.rais 8 [Ex.var 1]]
   [],
 St.iff
   (Ex.val (Ex.cmp (CO.ge) (Ex.lenI (Ex.fld (Ex.var 0) 5)) (Ex.fld (Ex.var 0) 7)))
   [St.rais 10 [Ex.fld (Ex.var 0) 7]]
   []]
def df39 : DF := ⟨.meth "Yard" "board", "board", "Yard.board", defArgs (met 39 11), defBody (met 39 11), defScope (met 39 11), [], []⟩
def nm39 : List Str := ["self", "name", "passenger"]
def pr39 : List Str := ["self", "name", "passenger"]
def bd39 : List St := [St.exp
   (Ex.met
     (Ex.var 0)
     13
     [Ex.fld (Ex.var 0) 3,
      Ex.fld (Ex.var 0) 4,
      Ex.dst (Ex.fld (Ex.var 0) 5) (Ex.var 1) (Ex.var 2)])]
def df41 : DF := ⟨.meth "Yard" "board_heap", "board_heap", "Yard.board_heap", defArgs (met 39 13), defBody (met 39 13), defScope (met 39 13), [], []⟩
def nm41 : List Str := ["self", "name", "heap"]
def pr41 : List Str := ["self", "name", "heap"]
def bd41 : List St := [St.exp (Ex.met (Ex.var 0) 14 [Ex.var 1]),
 St.exp (Ex.call 8 [Ex.fld (Ex.var 0) 3, Ex.var 2]),
 St.exp
   (Ex.met
     (Ex.var 0)
     15
     [Ex.var 1,
      Ex.tup [(false, Ex.cst (Va.str [104, 101, 97, 112])), (false, Ex.blt (Bf.list) [Ex.var 2])]])]
def df43 : DF := ⟨.meth "Yard" "leave", "leave", "Yard.leave", defArgs (met 39 15), defBody (met 39 15), defScope (met 39 15), [], []⟩
def nm43 : List Str := ["self", "name", "one"]
def pr43 : List Str := ["self", "name"]
def bd43 : List St := [St.exp (Ex.met (Ex.var 0) 16 [Ex.var 1]),
 St.exp
   (Ex.met
     (Ex.var 0)
     13
     [Ex.fld (Ex.var 0) 3,
      Ex.fld (Ex.var 0) 4,
      Ex.lck
        (Ex.fld (Ex.var 0) 5)
        (Ex.dc
          (Ex.var 2)
          (Ex.idx (Ex.fld (Ex.var 0) 5) (Ex.var 2))
          (LT.one 2)
          (IK.it)
          [Ex.fld (Ex.var 0) 5]
          [Ex.val (Ex.cmp (CO.ne) (Ex.var 2) (Ex.var 1))]
          [2])])]
def df45 : DF := ⟨.meth "Yard" "undo", "undo", "Yard.undo", defArgs (met 39 17), defBody (met 39 17), defScope (met 39 17), [], []⟩
def nm45 : List Str := ["self"]
def pr45 : List Str := ["self"]
def bd45 : List St := [St.iff (Ex.val (Ex.cmp (CO.eq) (Ex.fld (Ex.var 0) 8) (Ex.lst []))) [St.rais 14 []] [],
 St.exp (Ex.bme (Bm.append) (Ex.fld (Ex.var 0) 9) [Ex.met (Ex.var 0) 12 []]),
 St.asgs
   [Tg.fld (Ex.var 0) 3, Tg.fld (Ex.var 0) 4, Tg.fld (Ex.var 0) 5]
   (Ex.bme (Bm.pop) (Ex.fld (Ex.var 0) 8) [])]
def df50 : DF := ⟨.meth "Yard" "passenger", "passenger", "Yard.passenger", defArgs (met 39 22), defBody (met 39 22), defScope (met 39 22), [], []⟩
def nm50 : List Str := ["self", "name"]
def pr50 : List Str := ["self", "name"]
def bd50 : List St := [St.iff
   (Ex.or
     (Ex.not (Ex.val (Ex.isi (Ex.var 1) [TyC.str])))
     (Ex.val (Ex.cmp (CO.notin) (Ex.var 1) (Ex.fld (Ex.var 0) 5))))
   [St.rais 13 [Ex.var 1]]
   [],
 St.ret (Ex.idx (Ex.fld (Ex.var 0) 5) (Ex.var 1))]
def df51 : DF := ⟨.meth "Yard" "passenger_of", "passenger_of", "Yard.passenger_of", defArgs (met 39 23), defBody (met 39 23), defScope (met 39 23), [], []⟩
def nm51 : List Str := ["self", "name", "kind", "found"]
def pr51 : List Str := ["self", "name", "kind"]
def bd51 : List St := [St.asg (Tg.var 3) (Ex.met (Ex.var 0) 16 [Ex.var 1]),
 St.iff
   (Ex.val (Ex.cmp (CO.ne) (Ex.idx (Ex.var 3) (Ex.cst (Va.int (Int.ofNat 0)))) (Ex.var 2)))
   [St.rais 9 [Ex.var 1]]
   [],
 St.ret (Ex.var 3)]
def df53 : DF := ⟨.meth "Yard" "heap", "heap", "Yard.heap", defArgs (met 39 25), defBody (met 39 25), defScope (met 39 25), [], []⟩
def nm53 : List Str := ["self", "name"]
def pr53 : List Str := ["self", "name"]
def bd53 : List St := [St.ret
   (Ex.blt
     (Bf.list)
     [Ex.idx
        (Ex.met (Ex.var 0) 17 [Ex.var 1, Ex.cst (Va.str [104, 101, 97, 112])])
        (Ex.cst (Va.int (Int.ofNat 1)))])]
def df55 : DF := ⟨.meth "Yard" "twin", "twin", "Yard.twin", defArgs (met 39 27), defBody (met 39 27), defScope (met 39 27), [], []⟩
def nm55 : List Str := ["self", "other"]
def pr55 : List Str := ["self"]
def bd55 : List St := [St.asg (Tg.var 1) (Ex.mkw 16 [Ex.fld (Ex.var 0) 2] [11] [Ex.cst (Va.int (Int.ofNat 20))]),
 St.par
   [Tg.fld (Ex.var 1) 3, Tg.fld (Ex.var 1) 4, Tg.fld (Ex.var 1) 5]
   [Ex.fld (Ex.var 0) 3, Ex.fld (Ex.var 0) 4, Ex.fld (Ex.var 0) 5],
 St.asgp (Ex.var 1) 7 (Ex.fld (Ex.var 0) 7),
 St.par
   [Tg.fld (Ex.var 1) 8, Tg.fld (Ex.var 1) 9]
   [Ex.blt (Bf.list) [Ex.fld (Ex.var 0) 8], Ex.blt (Bf.list) [Ex.fld (Ex.var 0) 9]],
 St.ret (Ex.var 1)]
def df57 : DF := ⟨.meth "Yard" "__len__", "__len__", "Yard.__len__", defArgs (met 39 29), defBody (met 39 29), defScope (met 39 29), [], []⟩
def nm57 : List Str := ["self"]
def pr57 : List Str := ["self"]
def bd57 : List St := [St.ret (Ex.lenI (Ex.fld (Ex.var 0) 5))]
def df59 : DF := ⟨.glo "_law_bag", "_law_bag", "_law_bag", defArgs (top 41), defBody (top 41), defScope (top 41), [], []⟩
def nm59 : List Str := ["_law_script"]
def pr59 : List Str := ["_law_script"]
def bd59 : List St := [St.ret
   (Ex.lst
     [(false, Ex.blt (Bf.list) [Ex.slc (Ex.var 0) none (some (Ex.cst (Va.int (Int.ofNat 63))))]),
      (false, Ex.cst (Va.int (Int.ofNat 0))),
      (false, Ex.cst (Va.int (Int.ofNat 0))),
      (false, Ex.cst (Va.int (Int.ofNat 5607))),
      (false, Ex.cst (Va.int (Int.ofNat 0)))])]
def df60 : DF := ⟨.glo "_law_pull", "_law_pull", "_law_pull", defArgs (top 42), defBody (top 42), defScope (top 42), [], []⟩
def nm60 : List Str := ["_law_bag_here", "_law_many", "_law_cell", "_law_drawn", "_law_now"]
def pr60 : List Str := ["_law_bag_here", "_law_many"]
def bd60 : List St := [St.iff
   (Ex.and
     (Ex.val
       (Ex.cmp
         (CO.eq)
         (Ex.idx (Ex.var 0) (Ex.cst (Va.int (Int.ofNat 2))))
         (Ex.cst (Va.int (Int.ofNat 0)))))
     (Ex.val
       (Ex.cmp
         (CO.lt)
         (Ex.idx (Ex.var 0) (Ex.cst (Va.int (Int.ofNat 1))))
         (Ex.lenI (Ex.idx (Ex.var 0) (Ex.cst (Va.int (Int.ofNat 0))))))))
   [St.asg
      (Tg.var 2)
      (Ex.idx
        (Ex.idx (Ex.var 0) (Ex.cst (Va.int (Int.ofNat 0))))
        (Ex.idx (Ex.var 0) (Ex.cst (Va.int (Int.ofNat 1))))),
    St.asg
      (Tg.sub (Ex.var 0) (Ex.cst (Va.int (Int.ofNat 1))))
      (Ex.bin
        (BO.add)
        (Ex.idx (Ex.var 0) (Ex.cst (Va.int (Int.ofNat 1))))
        (Ex.cst (Va.int (Int.ofNat 1)))),
    St.iff
      (Ex.val
        (Ex.cmp
          (CO.ge)
          (Ex.var 2)
          (Ex.bin (BO.pow) (Ex.cst (Va.int (Int.ofNat 10))) (Ex.cst (Va.int (Int.ofNat 18))))))
      [St.asg (Tg.sub (Ex.var 0) (Ex.cst (Va.int (Int.ofNat 2)))) (Ex.var 2)]
      [St.asg
         (Tg.sub (Ex.var 0) (Ex.cst (Va.int (Int.ofNat 3))))
         (Ex.bin
           (BO.mod)
           (Ex.blt
             (Bf.int)
             [Ex.bin
                (BO.add)
                (Ex.bin
                  (BO.add)
                  (Ex.bin
                    (BO.mul)
                    (Ex.idx (Ex.var 0) (Ex.cst (Va.int (Int.ofNat 3))))
                    (Ex.cst (Va.int (Int.ofNat 48761))))
                  (Ex.bin
                    (BO.mul)
                    (Ex.bin
                      (BO.mod)
                      (Ex.blt (Bf.int) [Ex.var 2])
                      (Ex.cst (Va.int (Int.ofNat 2147483549))))
                    (Ex.cst (Va.int (Int.ofNat 62971)))))
                (Ex.cst (Va.int (Int.ofNat 29)))])
           (Ex.cst (Va.int (Int.ofNat 2147483629))))]]
   [],
 St.iff
   (Ex.val
     (Ex.cmp
       (CO.gt)
       (Ex.idx (Ex.var 0) (Ex.cst (Va.int (Int.ofNat 2))))
       (Ex.cst (Va.int (Int.ofNat 0)))))
   [St.asg
      (Tg.var 3)
      (Ex.bin
        (BO.mod)
        (Ex.blt (Bf.int) [Ex.idx (Ex.var 0) (Ex.cst (Va.int (Int.ofNat 2)))])
        (Ex.var 1)),
    St.asg
      (Tg.sub (Ex.var 0) (Ex.cst (Va.int (Int.ofNat 2))))
      (Ex.bin (BO.fdv) (Ex.idx (Ex.var 0) (Ex.cst (Va.int (Int.ofNat 2)))) (Ex.var 1)),
    St.ret (Ex.var 3)]
   [],
 St.asg
   (Tg.sub (Ex.var 0) (Ex.cst (Va.int (Int.ofNat 4))))
   (Ex.bin
     (BO.add)
     (Ex.idx (Ex.var 0) (Ex.cst (Va.int (Int.ofNat 4))))
     (Ex.cst (Va.int (Int.ofNat 1)))),
 St.asg (Tg.var 4) (Ex.idx (Ex.var 0) (Ex.cst (Va.int (Int.ofNat 3)))),
 St.asg
   (Tg.sub (Ex.var 0) (Ex.cst (Va.int (Int.ofNat 3))))
   (Ex.bin
     (BO.mod)
     (Ex.blt
       (Bf.int)
       [Ex.bin
          (BO.add)
          (Ex.bin
            (BO.add)
            (Ex.bin
              (BO.add)
              (Ex.bin (BO.mul) (Ex.var 4) (Ex.var 4))
              (Ex.bin (BO.mul) (Ex.var 4) (Ex.cst (Va.int (Int.ofNat 30011)))))
            (Ex.bin
              (BO.mul)
              (Ex.idx (Ex.var 0) (Ex.cst (Va.int (Int.ofNat 4))))
              (Ex.cst (Va.int (Int.ofNat 1300021)))))
          (Ex.cst (Va.int (Int.ofNat 77777)))])
     (Ex.cst (Va.int (Int.ofNat 2147483629)))),
 St.ret
   (Ex.bin
     (BO.mod)
     (Ex.blt
       (Bf.int)
       [Ex.bin
          (BO.add)
          (Ex.bin
            (BO.fdv)
            (Ex.idx (Ex.var 0) (Ex.cst (Va.int (Int.ofNat 3))))
            (Ex.cst (Va.int (Int.ofNat 79))))
          (Ex.bin
            (BO.mul)
            (Ex.bin
              (BO.mod)
              (Ex.blt (Bf.int) [Ex.idx (Ex.var 0) (Ex.cst (Va.int (Int.ofNat 3)))])
              (Ex.cst (Va.int (Int.ofNat 8087))))
            (Ex.cst (Va.int (Int.ofNat 53))))])
     (Ex.var 1))]
def df61 : DF := ⟨.glo "_law_of", "_law_of", "_law_of", defArgs (top 43), defBody (top 43), defScope (top 43), [], []⟩
def nm61 : List Str := ["_law_bag_here", "_law_things"]
def pr61 : List Str := ["_law_bag_here", "_law_things"]
def bd61 : List St := [St.ret (Ex.idx (Ex.var 1) (Ex.call 60 [Ex.var 0, Ex.lenI (Ex.var 1)]))]
def df62 : DF := ⟨.glo "_law_same", "_law_same", "_law_same", defArgs (top 44), defBody (top 44), defScope (top 44), [], []⟩
def nm62 : List Str := ["_law_found", "_law_due", "_law_a", "_law_b"]
def pr62 : List Str := ["_law_found", "_law_due"]
def bd62 : List St := [St.iff
   (Ex.val (Ex.isi (Ex.var 1) [TyC.list, TyC.tuple]))
   [St.iff
      (Ex.val (Ex.cmp (CO.ne) (Ex.isi (Ex.var 0) [TyC.list]) (Ex.isi (Ex.var 1) [TyC.list])))
      [St.ret (Ex.cst (Va.bl false))]
      [],
    St.iff
      (Ex.or
        (Ex.val
          (Ex.cmp (CO.ne) (Ex.isi (Ex.var 0) [TyC.tuple]) (Ex.isi (Ex.var 1) [TyC.tuple])))
        (Ex.val (Ex.cmp (CO.ne) (Ex.lenI (Ex.var 0)) (Ex.lenI (Ex.var 1)))))
      [St.ret (Ex.cst (Va.bl false))]
      [],
    St.ret
      (Ex.blt
        (Bf.all)
        [Ex.lc
           (Ex.call 69 [Ex.var 2, Ex.var 3])
           (LT.many [2, 3])
           (IK.zip)
           [Ex.var 0, Ex.var 1]
           []
           [2, 3]])]
   [],
 St.iff
   (Ex.or (Ex.val (Ex.isN (Ex.var 1))) (Ex.val (Ex.isN (Ex.var 0))))
   [St.ret (Ex.and (Ex.isN (Ex.var 1)) (Ex.isN (Ex.var 0)))]
   [],
 St.iff
   (Ex.or
     (Ex.val (Ex.cmp (CO.ne) (Ex.isi (Ex.var 0) [TyC.bool]) (Ex.isi (Ex.var 1) [TyC.bool])))
     (Ex.val (Ex.cmp (CO.ne) (Ex.isi (Ex.var 0) [TyC.int]) (Ex.isi (Ex.var 1) [TyC.int]))))
   [St.ret (Ex.cst (Va.bl false))]
   [],
 St.ret
   (Ex.and
     (Ex.cmp (CO.eq) (Ex.isi (Ex.var 0) [TyC.str]) (Ex.isi (Ex.var 1) [TyC.str]))
     (Ex.cmp (CO.eq) (Ex.var 0) (Ex.var 1)))]
def df63 : DF := ⟨.glo "_law_same", "_law_same", "_law_same", defArgs (top 44), defBody (top 44), defScope (top 44), [], []⟩
def nm63 : List Str := ["_law_found", "_law_due", "_law_a", "_law_b"]
def pr63 : List Str := ["_law_found", "_law_due"]
def bd63 : List St := [St.iff
   (Ex.val (Ex.isi (Ex.var 1) [TyC.list, TyC.tuple]))
   [St.iff
      (Ex.val (Ex.cmp (CO.ne) (Ex.isi (Ex.var 0) [TyC.list]) (Ex.isi (Ex.var 1) [TyC.list])))
      [St.ret (Ex.cst (Va.bl false))]
      [],
    St.iff
      (Ex.or
        (Ex.val
          (Ex.cmp (CO.ne) (Ex.isi (Ex.var 0) [TyC.tuple]) (Ex.isi (Ex.var 1) [TyC.tuple])))
        (Ex.val (Ex.cmp (CO.ne) (Ex.lenI (Ex.var 0)) (Ex.lenI (Ex.var 1)))))
      [St.ret (Ex.cst (Va.bl false))]
      [],
    St.ret
      (Ex.blt
        (Bf.all)
        [Ex.lc
           (Ex.call 62 [Ex.var 2, Ex.var 3])
           (LT.many [2, 3])
           (IK.zip)
           [Ex.var 0, Ex.var 1]
           []
           [2, 3]])]
   [],
 St.iff
   (Ex.or (Ex.val (Ex.isN (Ex.var 1))) (Ex.val (Ex.isN (Ex.var 0))))
   [St.ret (Ex.and (Ex.isN (Ex.var 1)) (Ex.isN (Ex.var 0)))]
   [],
 St.iff
   (Ex.or
     (Ex.val (Ex.cmp (CO.ne) (Ex.isi (Ex.var 0) [TyC.bool]) (Ex.isi (Ex.var 1) [TyC.bool])))
     (Ex.val (Ex.cmp (CO.ne) (Ex.isi (Ex.var 0) [TyC.int]) (Ex.isi (Ex.var 1) [TyC.int]))))
   [St.ret (Ex.cst (Va.bl false))]
   [],
 St.ret
   (Ex.and
     (Ex.cmp (CO.eq) (Ex.isi (Ex.var 0) [TyC.str]) (Ex.isi (Ex.var 1) [TyC.str]))
     (Ex.cmp (CO.eq) (Ex.var 0) (Ex.var 1)))]
def df64 : DF := ⟨.glo "_law_same", "_law_same", "_law_same", defArgs (top 44), defBody (top 44), defScope (top 44), [], []⟩
def nm64 : List Str := ["_law_found", "_law_due", "_law_a", "_law_b"]
def pr64 : List Str := ["_law_found", "_law_due"]
def bd64 : List St := [St.iff
   (Ex.val (Ex.isi (Ex.var 1) [TyC.list, TyC.tuple]))
   [St.iff
      (Ex.val (Ex.cmp (CO.ne) (Ex.isi (Ex.var 0) [TyC.list]) (Ex.isi (Ex.var 1) [TyC.list])))
      [St.ret (Ex.cst (Va.bl false))]
      [],
    St.iff
      (Ex.or
        (Ex.val
          (Ex.cmp (CO.ne) (Ex.isi (Ex.var 0) [TyC.tuple]) (Ex.isi (Ex.var 1) [TyC.tuple])))
        (Ex.val (Ex.cmp (CO.ne) (Ex.lenI (Ex.var 0)) (Ex.lenI (Ex.var 1)))))
      [St.ret (Ex.cst (Va.bl false))]
      [],
    St.ret
      (Ex.blt
        (Bf.all)
        [Ex.lc
           (Ex.call 63 [Ex.var 2, Ex.var 3])
           (LT.many [2, 3])
           (IK.zip)
           [Ex.var 0, Ex.var 1]
           []
           [2, 3]])]
   [],
 St.iff
   (Ex.or (Ex.val (Ex.isN (Ex.var 1))) (Ex.val (Ex.isN (Ex.var 0))))
   [St.ret (Ex.and (Ex.isN (Ex.var 1)) (Ex.isN (Ex.var 0)))]
   [],
 St.iff
   (Ex.or
     (Ex.val (Ex.cmp (CO.ne) (Ex.isi (Ex.var 0) [TyC.bool]) (Ex.isi (Ex.var 1) [TyC.bool])))
     (Ex.val (Ex.cmp (CO.ne) (Ex.isi (Ex.var 0) [TyC.int]) (Ex.isi (Ex.var 1) [TyC.int]))))
   [St.ret (Ex.cst (Va.bl false))]
   [],
 St.ret
   (Ex.and
     (Ex.cmp (CO.eq) (Ex.isi (Ex.var 0) [TyC.str]) (Ex.isi (Ex.var 1) [TyC.str]))
     (Ex.cmp (CO.eq) (Ex.var 0) (Ex.var 1)))]
def df67 : DF := ⟨.glo "_law_drawn_names", "_law_drawn_names", "_law_drawn_names", defArgs (top 47), defBody (top 47), defScope (top 47), [], []⟩
def nm67 : List Str := ["_law_bag_here", "_law_many", "_law_stem", "_law_at", "_law_first", "_law_k"]
def pr67 : List Str := ["_law_bag_here", "_law_many"]
def bd67 : List St := [St.asg
   (Tg.var 2)
   (Ex.join
     (Ex.cst (Va.str []))
     (Ex.lc
       (Ex.call 61 [Ex.var 0, Ex.cst (Va.str [97, 101, 109, 114, 116, 122])])
       (LT.one 5)
       (IK.rng)
       [Ex.call 60 [Ex.var 0, Ex.cst (Va.int (Int.ofNat 8))]]
       []
       [5])),
 St.par
   [Tg.var 3, Tg.var 4]
   [Ex.call 60 [Ex.var 0, Ex.bin (BO.add) (Ex.lenI (Ex.var 2)) (Ex.cst (Va.int (Int.ofNat 1)))],
    Ex.call 60 [Ex.var 0, Ex.cst (Va.int (Int.ofNat 26))]],
 St.ret
   (Ex.lc
     (Ex.bin
       (BO.add)
       (Ex.bin
         (BO.add)
         (Ex.slc (Ex.var 2) none (some (Ex.var 3)))
         (Ex.idx
           (Ex.cst
             (Va.str [97, 98, 99, 100, 101, 102, 103, 104, 105, 106, 107, 108, 109, 110, 111, 112, 113, 114, 115, 116, 117, 118, 119, 120, 121, 122]))
           (Ex.bin
             (BO.mod)
             (Ex.blt
               (Bf.int)
               [Ex.bin
                  (BO.add)
                  (Ex.var 4)
                  (Ex.bin (BO.mul) (Ex.cst (Va.int (Int.ofNat 5))) (Ex.var 5))])
             (Ex.cst (Va.int (Int.ofNat 26))))))
       (Ex.slc (Ex.var 2) (some (Ex.var 3)) none))
     (LT.one 5)
     (IK.rng)
     [Ex.var 1]
     []
     [5])]
def dfL : DF := ⟨.glo "law", "law", "law", defArgs (top 48), defBody (top 48), defScope (top 48), [], []⟩
def nmL : List Str := ["_law_script", "_law_bag_here", "_law_turn", "_law_good", "_law_many", "_law_name", "_law_fits", "_law_room_z", "_law_due", "_law_twin", "_law_k", "_law_low", "_law_names", "_law_value_z", "_law_yard"]
def bdL : List St := [St.asg (Tg.var 1) (Ex.call 59 [Ex.var 0]),
 St.for
   (LT.one 2)
   (IK.rng)
   [Ex.cst (Va.int (Int.ofNat 4))]
   [St.asg
      (Tg.var 13)
      (Ex.call
        61
        [Ex.var 1,
         Ex.lst
           [(false, Ex.cst (Va.int (Int.ofNat 0))),
            (false, Ex.cst (Va.int (Int.ofNat 1))),
            (false, Ex.cst (Va.int (Int.ofNat 20))),
            (false, Ex.cst (Va.int (Int.ofNat 21))),
            (false, Ex.neg (Ex.cst (Va.int (Int.ofNat 1)))),
            (false, Ex.cst Va.non),
            (false, Ex.cst (Va.bl true)),
            (false, Ex.cst (Va.str [53])),
            (false, Ex.lst [(false, Ex.cst (Va.int (Int.ofNat 5)))]),
            (false, Ex.bin (BO.pow) (Ex.cst (Va.int (Int.ofNat 10))) (Ex.cst (Va.int (Int.ofNat 30)))),
            (false, Ex.call 60 [Ex.var 1, Ex.cst (Va.int (Int.ofNat 22))]),
            (false, Ex.call 60 [Ex.var 1, Ex.cst (Va.int (Int.ofNat 8))])]]),
    St.asg
      (Tg.var 3)
      (Ex.and
        (Ex.isi (Ex.var 13) [TyC.int])
        (Ex.and
          (Ex.not (Ex.isi (Ex.var 13) [TyC.bool]))
          (Ex.chn
            (CO.le)
            (CO.le)
            (Ex.cst (Va.int (Int.ofNat 1)))
            (Ex.var 13)
            (Ex.cst (Va.int (Int.ofNat 20)))))),
    St.iff
      (Ex.not
        (Ex.val
          (Ex.call
            64
            [Ex.why
               (Ex.fld (Ex.mkw 16 [Ex.call 16 [Ex.cst (Va.int (Int.ofNat 2))]] [11] [Ex.var 13]) 11),
             Ex.ite
               (Ex.val (Ex.var 3))
               (Ex.tup [(false, Ex.cst (Va.str [])), (false, Ex.var 13)])
               (Ex.tup
                 [(false, Ex.cst (Va.str [73, 110, 118, 97, 108, 105, 100, 76, 105, 109, 105, 116])),
                  (false, Ex.var 13)])])))
      [St.ret (Ex.cst (Va.bl false))]
      [],
    St.par
      [Tg.var 14, Tg.var 12, Tg.var 4]
      [Ex.mk 16 [Ex.call 16 [Ex.cst (Va.int (Int.ofNat 3))]],
       Ex.call 67 [Ex.var 1, Ex.cst (Va.int (Int.ofNat 22))],
       Ex.call 60 [Ex.var 1, Ex.cst (Va.int (Int.ofNat 7))]],
    St.for
      (LT.one 5)
      (IK.it)
      [Ex.slc (Ex.var 12) none (some (Ex.var 4))]
      [St.exp (Ex.met (Ex.var 14) 29 [Ex.var 5, Ex.lst [(false, Ex.cst (Va.int (Int.ofNat 1)))]])],
    St.asg (Tg.var 6) (Ex.and (Ex.var 3) (Ex.cmp (CO.ge) (Ex.var 13) (Ex.var 4))),
    St.iff
      (Ex.not
        (Ex.val
          (Ex.call
            64
            [Ex.why (Ex.metw (Ex.var 14) 30 [] [31] [Ex.var 13]),
             Ex.ite
               (Ex.val (Ex.var 6))
               (Ex.tup [(false, Ex.cst (Va.str [])), (false, Ex.cst Va.non)])
               (Ex.tup
                 [(false, Ex.cst (Va.str [73, 110, 118, 97, 108, 105, 100, 76, 105, 109, 105, 116])),
                  (false, Ex.var 13)])])))
      [St.ret (Ex.cst (Va.bl false))]
      [],
    St.asg (Tg.var 7) (Ex.ite (Ex.val (Ex.var 6)) (Ex.var 13) (Ex.cst (Va.int (Int.ofNat 8)))),
    St.for
      (LT.one 10)
      (IK.rng)
      [Ex.var 4, Ex.cst (Va.int (Int.ofNat 22))]
      [St.asg
         (Tg.var 8)
         (Ex.ite
           (Ex.val (Ex.cmp (CO.lt) (Ex.var 10) (Ex.var 7)))
           (Ex.tup [(false, Ex.cst (Va.str [])), (false, Ex.cst Va.non)])
           (Ex.tup
             [(false, Ex.cst (Va.str [67, 97, 112, 97, 99, 105, 116, 121, 69, 120, 99, 101, 101, 100, 101, 100])),
              (false, Ex.var 7)])),
       St.iff
         (Ex.not
           (Ex.val
             (Ex.call
               64
               [Ex.why
                  (Ex.met
                    (Ex.var 14)
                    29
                    [Ex.idx (Ex.var 12) (Ex.var 10),
                     Ex.lst [(false, Ex.bin (BO.add) (Ex.var 10) (Ex.cst (Va.int (Int.ofNat 1))))]]),
                Ex.var 8])))
         [St.ret (Ex.cst (Va.bl false))]
         []],
    St.iff
      (Ex.or
        (Ex.val (Ex.cmp (CO.ne) (Ex.fld (Ex.var 14) 11) (Ex.var 7)))
        (Ex.val (Ex.cmp (CO.ne) (Ex.lenI (Ex.var 14)) (Ex.var 7))))
      [St.ret (Ex.cst (Va.bl false))]
      [],
    St.exp (Ex.met (Ex.var 14) 32 [Ex.idx (Ex.var 12) (Ex.cst (Va.int (Int.ofNat 0)))]),
    St.asg
      (Tg.var 11)
      (Ex.blt
        (Bf.max)
        [Ex.cst (Va.int (Int.ofNat 1)), Ex.bin (BO.sub) (Ex.var 7) (Ex.cst (Va.int (Int.ofNat 1)))]),
    St.exp (Ex.met (Ex.var 14) 30 [Ex.var 11]),
    St.exp (Ex.met (Ex.var 14) 33 []),
    St.iff
      (Ex.not
        (Ex.val
          (Ex.call
            64
            [Ex.lst
               [(false, Ex.lenI (Ex.var 14)),
                (false, Ex.fld (Ex.var 14) 11),
                (false, Ex.met (Ex.var 14) 34 [Ex.idx (Ex.var 12) (Ex.cst (Va.int (Int.ofNat 0)))])],
             Ex.lst
               [(false, Ex.var 7),
                (false, Ex.var 11),
                (false, Ex.lst [(false, Ex.cst (Va.int (Int.ofNat 1)))])]])))
      [St.ret (Ex.cst (Va.bl false))]
      [],
    St.asg (Tg.var 9) (Ex.met (Ex.var 14) 35 []),
    St.iff
      (Ex.val
        (Ex.cmp
          (CO.ne)
          (Ex.lst [(false, Ex.lenI (Ex.var 9)), (false, Ex.fld (Ex.var 9) 11)])
          (Ex.lst [(false, Ex.var 7), (false, Ex.var 11)])))
      [St.ret (Ex.cst (Va.bl false))]
      [],
    St.iff
      (Ex.and
        (Ex.val (Ex.cmp (CO.gt) (Ex.var 7) (Ex.cst (Va.int (Int.ofNat 1)))))
        (Ex.val
          (Ex.cmp
            (CO.ne)
            (Ex.why (Ex.met (Ex.var 14) 30 [Ex.var 11]))
            (Ex.tup
              [(false, Ex.cst (Va.str [73, 110, 118, 97, 108, 105, 100, 76, 105, 109, 105, 116])),
               (false, Ex.var 11)]))))
      [St.ret (Ex.cst (Va.bl false))]
      []],
 St.ret
   (Ex.cmp
     (CO.eq)
     (Ex.fld (Ex.mkk 16 36 (Ex.call 16 [Ex.cst (Va.int (Int.ofNat 2))])) 11)
     (Ex.cst (Va.int (Int.ofNat 8))))]
def dfW : DF := ⟨.glo "_law_why", "_law_why", "_law_why", defArgs (top 46), defBody (top 46), defScope (top 46), [], []⟩
def dfF : DF := ⟨.glo "_law_field", "_law_field", "_law_field", defArgs (top 45), defBody (top 45), defScope (top 45), [], []⟩
def wpD : FxP := ⟨18, [([[73, 110, 118, 97, 108, 105, 100, 80, 108, 97, 99, 101],
   [73, 110, 118, 97, 108, 105, 100, 67, 111, 117, 110, 116],
   [73, 110, 118, 97, 108, 105, 100, 77, 111, 100, 117, 108, 117, 115],
   [73, 110, 118, 97, 108, 105, 100, 78, 97, 109, 101],
   [73, 110, 118, 97, 108, 105, 100, 76, 105, 109, 105, 116]],
  FxR.fld 19),
 ([[73, 110, 118, 97, 108, 105, 100, 82, 111, 97, 100],
   [67, 97, 110, 110, 111, 116, 84, 117, 114, 110],
   [73, 110, 118, 97, 108, 105, 100, 76, 105, 110, 101],
   [80, 97, 114, 115, 101, 69, 114, 114, 111, 114]],
  FxR.fld 20),
 ([[84, 111, 111, 77, 97, 110, 121, 80, 108, 97, 99, 101, 115],
   [84, 111, 111, 76, 111, 110, 103],
   [84, 111, 111, 77, 97, 110, 121, 76, 105, 115, 116, 115],
   [72, 101, 97, 118, 121]],
  FxR.fld 21),
 ([[87, 114, 111, 110, 103, 67, 111, 117, 110, 116],
   [82, 105, 110, 103],
   [68, 117, 112, 108, 105, 99, 97, 116, 101, 78, 97, 109, 101],
   [87, 114, 111, 110, 103, 75, 105, 110, 100],
   [85, 110, 107, 110, 111, 119, 110, 78, 97, 109, 101]],
  FxR.fld 22),
 ([[73, 110, 118, 97, 108, 105, 100, 84, 97, 98, 108, 101], [85, 110, 114, 101, 97, 99, 104, 97, 98, 108, 101]],
  FxR.ite [73, 110, 118, 97, 108, 105, 100, 84, 97, 98, 108, 101] (FxR.fld 23) (FxR.fld 24)),
 ([[67, 97, 112, 97, 99, 105, 116, 121, 69, 120, 99, 101, 101, 100, 101, 100], [73, 110, 85, 115, 101]],
  FxR.ite
    [67, 97, 112, 97, 99, 105, 116, 121, 69, 120, 99, 101, 101, 100, 101, 100]
    (FxR.fld 25)
    (FxR.fld 26))], FxR.ite [73, 110, 118, 97, 108, 105, 100, 67, 111, 109, 109, 97, 110, 100] (FxR.fld 27) (FxR.non)⟩
def wyD : WyD := ⟨"_law_why", dfW, 38, dfF, 39, ⟨"_law_ask", "_law_told", "_law_e", "RoadError", "UnknownName", "NothingLeft", "tag", "_law_field"⟩, ["_law_e"], "_law_e"⟩
def xd0 : XD := ⟨"InvalidTable", "InvalidTable.__init__", defArgs (met 4 0), defBody (met 4 0), defScope (met 4 0), .v⟩
def xd1 : XD := ⟨"Unreachable", "Unreachable.__init__", defArgs (met 5 0), defBody (met 5 0), defScope (met 5 0), .v⟩
def xd2 : XD := ⟨"SingleRing", "SingleRing.__init__", defArgs (met 6 0), defBody (met 6 0), defScope (met 6 0), .v⟩
def xd3 : XD := ⟨"InvalidCount", "InvalidCount.__init__", defArgs (met 7 0), defBody (met 7 0), defScope (met 7 0), .v⟩
def xd4 : XD := ⟨"InvalidHeap", "InvalidHeap.__init__", defArgs (met 8 0), defBody (met 8 0), defScope (met 8 0), .v⟩
def xd5 : XD := ⟨"InvalidName", "InvalidName.__init__", defArgs (met 9 0), defBody (met 9 0), defScope (met 9 0), .v⟩
def xd6 : XD := ⟨"DuplicateName", "DuplicateName.__init__", defArgs (met 10 0), defBody (met 10 0), defScope (met 10 0), .v⟩
def xd7 : XD := ⟨"WrongKind", "WrongKind.__init__", defArgs (met 11 0), defBody (met 11 0), defScope (met 11 0), .v⟩
def xd8 : XD := ⟨"CapacityExceeded", "CapacityExceeded.__init__", defArgs (met 12 0), defBody (met 12 0), defScope (met 12 0), .v⟩
def xd9 : XD := ⟨"InvalidLimit", "InvalidLimit.__init__", defArgs (met 13 0), defBody (met 13 0), defScope (met 13 0), .v⟩
def xd10 : XD := ⟨"InvalidText", "InvalidText.__init__", defArgs (met 14 0), defBody (met 14 0), defScope (met 14 0), .v⟩
def xd11 : XD := ⟨"UnknownName", "UnknownName.__init__", defArgs (met 15 0), defBody (met 15 0), defScope (met 15 0), .l⟩
def xd12 : XD := ⟨"NothingLeft", "NothingLeft.__init__", defArgs (met 16 0), defBody (met 16 0), defScope (met 16 0), .i⟩
def gt0 : List (Str × GK) := (("_wall", GK.fn 0) :: ("RoadError", GK.cls 0) :: ("Missing", GK.cls 1) :: ("InvalidTable", GK.cls 2) :: ("Unreachable", GK.cls 3) :: ("SingleRing", GK.cls 4) :: ("InvalidCount", GK.cls 5) :: ("InvalidHeap", GK.cls 6) :: ("InvalidName", GK.cls 7) :: ("DuplicateName", GK.cls 8) :: ("WrongKind", GK.cls 9) :: ("CapacityExceeded", GK.cls 10) :: ("InvalidLimit", GK.cls 11) :: ("InvalidText", GK.cls 12) :: ("UnknownName", GK.cls 13) :: ("NothingLeft", GK.cls 14) :: ("FIGURES", GK.cst (Va.str [48, 49, 50, 51, 52, 53, 54, 55, 56, 57])) :: ("LETTERS", GK.cst (Va.str [97, 98, 99, 100, 101, 102, 103, 104, 105, 106, 107, 108, 109, 110, 111, 112, 113, 114, 115, 116, 117, 118, 119, 120, 121, 122])) :: ("MOST_DIGITS", GK.cst (Va.int (Int.ofNat 60))) :: ("is_number", GK.fn 1) :: ("is_within", GK.fn 2) :: ("is_list", GK.fn 3) :: ("are_counts", GK.fn 4) :: ("is_name", GK.fn 5) :: ("number_in", GK.fn 6) :: ("numbers_in", GK.fn 7) :: ("check_heap", GK.fn 8) :: ("MOST_PLACES", GK.cst (Va.int (Int.ofNat 12))) :: ("check_table", GK.fn 9) :: ("reached", GK.fn 10) :: ("transposed", GK.fn 11) :: ("check_joined", GK.fn 12) :: ("Map", GK.cls 15) :: ("MOST_PASSENGERS", GK.cst (Va.int (Int.ofNat 20))) :: ("Yard", GK.cls 16) :: ("_law_bag", GK.fn 59) :: ("_law_pull", GK.fn 60) :: ("_law_of", GK.fn 61) :: ("_law_same", GK.fn 64) :: ("_law_field", GK.fn 65) :: ("_law_why", GK.fn 66) :: ("_law_drawn_names", GK.fn 67) :: ("law", GK.fn 68) :: ("Map.bouquet", GK.sm 15 "bouquet" 16) :: [])
def gt1 : List (Str × GK) := (("_wall", GK.fn 0) :: ("RoadError", GK.cls 0) :: ("Missing", GK.cls 1) :: ("InvalidTable", GK.cls 2) :: ("Unreachable", GK.cls 3) :: ("SingleRing", GK.cls 4) :: ("InvalidCount", GK.cls 5) :: ("InvalidHeap", GK.cls 6) :: ("InvalidName", GK.cls 7) :: ("DuplicateName", GK.cls 8) :: ("WrongKind", GK.cls 9) :: ("CapacityExceeded", GK.cls 10) :: ("InvalidLimit", GK.cls 11) :: ("InvalidText", GK.cls 12) :: ("UnknownName", GK.cls 13) :: ("NothingLeft", GK.cls 14) :: ("FIGURES", GK.cst (Va.str [48, 49, 50, 51, 52, 53, 54, 55, 56, 57])) :: ("LETTERS", GK.cst (Va.str [97, 98, 99, 100, 101, 102, 103, 104, 105, 106, 107, 108, 109, 110, 111, 112, 113, 114, 115, 116, 117, 118, 119, 120, 121, 122])) :: ("MOST_DIGITS", GK.cst (Va.int (Int.ofNat 60))) :: ("is_number", GK.fn 1) :: ("is_within", GK.fn 2) :: ("is_list", GK.fn 3) :: ("are_counts", GK.fn 4) :: ("is_name", GK.fn 5) :: ("number_in", GK.fn 6) :: ("numbers_in", GK.fn 7) :: ("check_heap", GK.fn 8) :: ("MOST_PLACES", GK.cst (Va.int (Int.ofNat 12))) :: ("check_table", GK.fn 9) :: ("reached", GK.fn 10) :: ("transposed", GK.fn 11) :: ("check_joined", GK.fn 12) :: ("Map", GK.cls 15) :: ("MOST_PASSENGERS", GK.cst (Va.int (Int.ofNat 20))) :: ("Yard", GK.cls 16) :: ("_law_bag", GK.fn 59) :: ("_law_pull", GK.fn 60) :: ("_law_of", GK.fn 61) :: ("_law_same", GK.fn 69) :: ("_law_field", GK.fn 65) :: ("_law_why", GK.fn 66) :: ("_law_drawn_names", GK.fn 67) :: ("law", GK.fn 68) :: ("Map.bouquet", GK.sm 15 "bouquet" 16) :: [])
def gt2 : List (Str × GK) := (("_wall", GK.fn 0) :: ("RoadError", GK.cls 0) :: ("Missing", GK.cls 1) :: ("InvalidTable", GK.cls 2) :: ("Unreachable", GK.cls 3) :: ("SingleRing", GK.cls 4) :: ("InvalidCount", GK.cls 5) :: ("InvalidHeap", GK.cls 6) :: ("InvalidName", GK.cls 7) :: ("DuplicateName", GK.cls 8) :: ("WrongKind", GK.cls 9) :: ("CapacityExceeded", GK.cls 10) :: ("InvalidLimit", GK.cls 11) :: ("InvalidText", GK.cls 12) :: ("UnknownName", GK.cls 13) :: ("NothingLeft", GK.cls 14) :: ("FIGURES", GK.cst (Va.str [48, 49, 50, 51, 52, 53, 54, 55, 56, 57])) :: ("LETTERS", GK.cst (Va.str [97, 98, 99, 100, 101, 102, 103, 104, 105, 106, 107, 108, 109, 110, 111, 112, 113, 114, 115, 116, 117, 118, 119, 120, 121, 122])) :: ("MOST_DIGITS", GK.cst (Va.int (Int.ofNat 60))) :: ("is_number", GK.fn 1) :: ("is_within", GK.fn 2) :: ("is_list", GK.fn 3) :: ("are_counts", GK.fn 4) :: ("is_name", GK.fn 5) :: ("number_in", GK.fn 6) :: ("numbers_in", GK.fn 7) :: ("check_heap", GK.fn 8) :: ("MOST_PLACES", GK.cst (Va.int (Int.ofNat 12))) :: ("check_table", GK.fn 9) :: ("reached", GK.fn 10) :: ("transposed", GK.fn 11) :: ("check_joined", GK.fn 12) :: ("Map", GK.cls 15) :: ("MOST_PASSENGERS", GK.cst (Va.int (Int.ofNat 20))) :: ("Yard", GK.cls 16) :: ("_law_bag", GK.fn 59) :: ("_law_pull", GK.fn 60) :: ("_law_of", GK.fn 61) :: ("_law_same", GK.fn 62) :: ("_law_field", GK.fn 65) :: ("_law_why", GK.fn 66) :: ("_law_drawn_names", GK.fn 67) :: ("law", GK.fn 68) :: ("Map.bouquet", GK.sm 15 "bouquet" 16) :: [])
def gt3 : List (Str × GK) := (("_wall", GK.fn 0) :: ("RoadError", GK.cls 0) :: ("Missing", GK.cls 1) :: ("InvalidTable", GK.cls 2) :: ("Unreachable", GK.cls 3) :: ("SingleRing", GK.cls 4) :: ("InvalidCount", GK.cls 5) :: ("InvalidHeap", GK.cls 6) :: ("InvalidName", GK.cls 7) :: ("DuplicateName", GK.cls 8) :: ("WrongKind", GK.cls 9) :: ("CapacityExceeded", GK.cls 10) :: ("InvalidLimit", GK.cls 11) :: ("InvalidText", GK.cls 12) :: ("UnknownName", GK.cls 13) :: ("NothingLeft", GK.cls 14) :: ("FIGURES", GK.cst (Va.str [48, 49, 50, 51, 52, 53, 54, 55, 56, 57])) :: ("LETTERS", GK.cst (Va.str [97, 98, 99, 100, 101, 102, 103, 104, 105, 106, 107, 108, 109, 110, 111, 112, 113, 114, 115, 116, 117, 118, 119, 120, 121, 122])) :: ("MOST_DIGITS", GK.cst (Va.int (Int.ofNat 60))) :: ("is_number", GK.fn 1) :: ("is_within", GK.fn 2) :: ("is_list", GK.fn 3) :: ("are_counts", GK.fn 4) :: ("is_name", GK.fn 5) :: ("number_in", GK.fn 6) :: ("numbers_in", GK.fn 7) :: ("check_heap", GK.fn 8) :: ("MOST_PLACES", GK.cst (Va.int (Int.ofNat 12))) :: ("check_table", GK.fn 9) :: ("reached", GK.fn 10) :: ("transposed", GK.fn 11) :: ("check_joined", GK.fn 12) :: ("Map", GK.cls 15) :: ("MOST_PASSENGERS", GK.cst (Va.int (Int.ofNat 20))) :: ("Yard", GK.cls 16) :: ("_law_bag", GK.fn 59) :: ("_law_pull", GK.fn 60) :: ("_law_of", GK.fn 61) :: ("_law_same", GK.fn 63) :: ("_law_field", GK.fn 65) :: ("_law_why", GK.fn 66) :: ("_law_drawn_names", GK.fn 67) :: ("law", GK.fn 68) :: ("Map.bouquet", GK.sm 15 "bouquet" 16) :: [])
def gtL : List (Str × GK) := ("_law_why", GK.why) :: gt0
def fi1 : Fi := ⟨1, 1, [], 1, bd1, 1, []⟩
def fi2 : Fi := ⟨3, 2, [], 3, bd2, 3, []⟩
def fi3 : Fi := ⟨1, 1, [], 1, bd3, 1, []⟩
def fi4 : Fi := ⟨2, 2, [], 3, bd4, 2, []⟩
def fi5 : Fi := ⟨1, 1, [], 2, bd5, 1, []⟩
def fi8 : Fi := ⟨2, 3, [], 2, bd8, 2, []⟩
def fi9 : Fi := ⟨1, 3, [], 3, bd9, 1, []⟩
def fi10 : Fi := ⟨2, 1, [], 8, bd10, 2, []⟩
def fi11 : Fi := ⟨1, 1, [], 3, bd11, 1, []⟩
def fi12 : Fi := ⟨1, 3, [], 5, bd12, 1, []⟩
def fi13 : Fi := ⟨2, 4, [], 3, bd13, 2, []⟩
def fi14 : Fi := ⟨1, 1, [], 1, bd14, 1, []⟩
def fi16 : Fi := ⟨1, 6, [], 1, bd16, 1, []⟩
def fi29 : Fi := ⟨3, 4, [(Va.int (Int.ofNat 8))], 3, bd29, 2, [(2, [11], []), (1, [36], [(Va.int (Int.ofNat 8))])]⟩
def fi30 : Fi := ⟨2, 3, [], 2, bd30, 2, []⟩
def fi31 : Fi := ⟨1, 1, [], 1, bd31, 1, []⟩
def fi32 : Fi := ⟨2, 4, [], 2, bd32, 2, []⟩
def fi33 : Fi := ⟨2, 7, [], 2, bd33, 2, [(1, [31], [])]⟩
def fi36 : Fi := ⟨1, 1, [], 1, bd36, 1, []⟩
def fi37 : Fi := ⟨4, 2, [], 4, bd37, 4, []⟩
def fi38 : Fi := ⟨2, 3, [], 2, bd38, 2, []⟩
def fi39 : Fi := ⟨3, 3, [], 3, bd39, 3, []⟩
def fi41 : Fi := ⟨3, 4, [], 3, bd41, 3, []⟩
def fi43 : Fi := ⟨2, 4, [], 3, bd43, 2, []⟩
def fi45 : Fi := ⟨1, 3, [], 1, bd45, 1, []⟩
def fi50 : Fi := ⟨2, 3, [], 2, bd50, 2, []⟩
def fi51 : Fi := ⟨3, 4, [], 4, bd51, 3, []⟩
def fi53 : Fi := ⟨2, 5, [], 2, bd53, 2, []⟩
def fi55 : Fi := ⟨1, 6, [], 2, bd55, 1, []⟩
def fi57 : Fi := ⟨1, 1, [], 1, bd57, 1, []⟩
def fi59 : Fi := ⟨1, 1, [], 1, bd59, 1, []⟩
def fi60 : Fi := ⟨2, 1, [], 5, bd60, 2, []⟩
def fi61 : Fi := ⟨2, 2, [], 2, bd61, 2, []⟩
def fi62 : Fi := ⟨2, 1, [], 4, bd62, 2, []⟩
def fi63 : Fi := ⟨2, 2, [], 4, bd63, 2, []⟩
def fi64 : Fi := ⟨2, 3, [], 4, bd64, 2, []⟩
def fi67 : Fi := ⟨2, 3, [], 6, bd67, 2, []⟩
def anL : List Str := ("places" :: "rows" :: "first_ground" :: "here" :: "made" :: "passengers" :: "check_limit" :: "limit_now" :: "past" :: "future" :: "working" :: "room" :: "stand" :: "settle" :: "need_room" :: "board" :: "passenger" :: "passenger_of" :: "tag" :: "given" :: "index" :: "most" :: "name" :: "row" :: "place" :: "limit" :: "user" :: "word" :: "bouquet" :: "board_heap" :: "set_room" :: "value" :: "leave" :: "undo" :: "heap" :: "twin" :: "ground" :: "__len__" :: [])
def D : LD where
  P := PySem.Challenge.pw_coinroads_k59_limits_of_yards
  cn := (.nd (some "RoadError") (.nd (some "Missing") (.nd (some "Unreachable") (.nd (some "InvalidName") (.nd (some "Map") .nil .nil) .nil) (.nd (some "InvalidLimit") .nil .nil)) (.nd (some "InvalidCount") (.nd (some "WrongKind") .nil .nil) (.nd (some "UnknownName") .nil .nil))) (.nd (some "InvalidTable") (.nd (some "SingleRing") (.nd (some "DuplicateName") (.nd (some "Yard") .nil .nil) .nil) (.nd (some "InvalidText") .nil .nil)) (.nd (some "InvalidHeap") (.nd (some "CapacityExceeded") .nil .nil) (.nd (some "NothingLeft") .nil .nil))))
  fp := (.nd (some (Pth.glo "_wall")) (.nd (some df1.at_) (.nd (some df3.at_) (.nd (some (Pth.glo "numbers_in")) (.nd (some (Pth.meth "Map" "total")) (.nd (some df31.at_) (.nd (some df63.at_) .nil .nil) .nil) (.nd (some (Pth.meth "Yard" "history")) .nil .nil)) (.nd (some (Pth.meth "Map" "reordered")) (.nd (some df39.at_) .nil .nil) (.nd (some df55.at_) .nil .nil))) (.nd (some df11.at_) (.nd (some (Pth.meth "Map" "need_place")) (.nd (some (Pth.meth "Yard" "busy")) (.nd (some df67.at_) .nil .nil) .nil) (.nd (some df51.at_) .nil .nil)) (.nd (some (Pth.meth "Map" "__str__")) (.nd (some df43.at_) .nil .nil) (.nd (some df59.at_) .nil .nil)))) (.nd (some df5.at_) (.nd (some df9.at_) (.nd (some (Pth.meth "Map" "read")) (.nd (some df33.at_) (.nd (some (Pth.glo "_law_field")) .nil .nil) .nil) (.nd (some (Pth.meth "Yard" "names")) .nil .nil)) (.nd (some (Pth.meth "Map" "__eq__")) (.nd (some df41.at_) .nil .nil) (.nd (some df57.at_) .nil .nil))) (.nd (some df13.at_) (.nd (some (Pth.meth "Map" "leaving")) (.nd (some df37.at_) (.nd (some (Pth.glo "_law_same")) .nil .nil) .nil) (.nd (some df53.at_) .nil .nil)) (.nd (some df29.at_) (.nd (some df45.at_) .nil .nil) (.nd (some df61.at_) .nil .nil))))) (.nd (some df2.at_) (.nd (some df4.at_) (.nd (some df8.at_) (.nd (some df16.at_) (.nd (some df32.at_) (.nd (some df64.at_) .nil .nil) .nil) (.nd (some (Pth.meth "Yard" "track")) .nil .nil)) (.nd (some (Pth.meth "Map" "__contains__")) (.nd (some (Pth.meth "Yard" "board_trip")) .nil .nil) (.nd (some (Pth.meth "Yard" "__contains__")) .nil .nil))) (.nd (some df12.at_) (.nd (some (Pth.meth "Map" "roads_between")) (.nd (some df36.at_) (.nd (some (Pth.glo "law")) .nil .nil) .nil) (.nd (some (Pth.meth "Yard" "trip")) .nil .nil)) (.nd (some (Pth.meth "Map" "__repr__")) (.nd (some (Pth.meth "Yard" "turn")) .nil .nil) (.nd (some df60.at_) .nil .nil)))) (.nd (some (Pth.glo "number_in")) (.nd (some df10.at_) (.nd (some (Pth.meth "Map" "table")) (.nd (some (Pth.meth "Yard" "ground")) (.nd (some (Pth.glo "_law_why")) .nil .nil) .nil) (.nd (some df50.at_) .nil .nil)) (.nd (some (Pth.meth "Map" "__len__")) (.nd (some (Pth.meth "Yard" "board_prices")) .nil .nil) (.nd (some (Pth.meth "Yard" "__repr__")) .nil .nil))) (.nd (some df14.at_) (.nd (some (Pth.meth "Map" "turned_about")) (.nd (some df38.at_) .nil .nil) (.nd (some (Pth.meth "Yard" "prices")) .nil .nil)) (.nd (some df30.at_) (.nd (some (Pth.meth "Yard" "redo")) .nil .nil) (.nd (some df62.at_) .nil .nil))))))
  an := anL
  gts := [gt0, gt1, gt2, gt3]
  fi := (.nd none (.nd (some fi1) (.nd (some fi3) (.nd none (.nd none (.nd (some fi31) (.nd (some fi63) .nil .nil) .nil) .nil) (.nd none (.nd (some fi39) .nil .nil) (.nd (some fi55) .nil .nil))) (.nd (some fi11) (.nd none (.nd none (.nd (some fi67) .nil .nil) .nil) (.nd (some fi51) .nil .nil)) (.nd none (.nd (some fi43) .nil .nil) (.nd (some fi59) .nil .nil)))) (.nd (some fi5) (.nd (some fi9) (.nd none (.nd (some fi33) .nil .nil) .nil) (.nd none (.nd (some fi41) .nil .nil) (.nd (some fi57) .nil .nil))) (.nd (some fi13) (.nd none (.nd (some fi37) .nil .nil) (.nd (some fi53) .nil .nil)) (.nd (some fi29) (.nd (some fi45) .nil .nil) (.nd (some fi61) .nil .nil))))) (.nd (some fi2) (.nd (some fi4) (.nd (some fi8) (.nd (some fi16) (.nd (some fi32) (.nd (some fi64) .nil .nil) .nil) .nil) .nil) (.nd (some fi12) (.nd none (.nd (some fi36) .nil .nil) .nil) (.nd none .nil (.nd (some fi60) .nil .nil)))) (.nd none (.nd (some fi10) (.nd none .nil (.nd (some fi50) .nil .nil)) .nil) (.nd (some fi14) (.nd none (.nd (some fi38) .nil .nil) .nil) (.nd (some fi30) .nil (.nd (some fi62) .nil .nil))))))
  fld := (.nd none (.nd none (.nd none (.nd none (.nd (some (.nd none (.nd (some ()) .nil .nil) .nil)) .nil .nil) .nil) .nil) .nil) (.nd none (.nd none (.nd none (.nd (some (.nd none (.nd none (.nd (some ()) (.nd (some ()) .nil .nil) .nil) (.nd (some ()) (.nd (some ()) .nil .nil) .nil)) (.nd (some ()) (.nd (some ()) (.nd (some ()) .nil .nil) .nil) (.nd none (.nd (some ()) .nil .nil) .nil)))) .nil .nil) .nil) .nil) .nil))
  prp := (.nd none (.nd none (.nd none (.nd none (.nd (some (.nd (some 14) .nil .nil)) .nil .nil) .nil) .nil) .nil) (.nd none (.nd none (.nd none (.nd (some (.nd none (.nd none (.nd none .nil (.nd (some 31) .nil .nil)) .nil) .nil)) .nil .nil) .nil) .nil) .nil))
  stp := (.nd none .nil (.nd none (.nd none (.nd none (.nd (some (.nd none (.nd none (.nd none .nil (.nd (some 32) .nil .nil)) .nil) .nil)) .nil .nil) .nil) .nil) .nil))
  met := (.nd none .nil (.nd none (.nd none (.nd none (.nd (some (.nd none (.nd none (.nd none (.nd none (.nd (some 39) .nil .nil) .nil) (.nd none (.nd none (.nd (some 55) .nil .nil) .nil) .nil)) (.nd none (.nd none (.nd (some 51) (.nd (some 45) .nil .nil) .nil) .nil) (.nd (some 37) (.nd none (.nd (some 57) .nil .nil) .nil) (.nd (some 41) .nil .nil)))) (.nd none (.nd none (.nd none (.nd (some 50) (.nd (some 43) .nil .nil) .nil) .nil) (.nd (some 36) .nil .nil)) (.nd (some 30) (.nd none (.nd none (.nd (some 53) .nil .nil) .nil) .nil) (.nd (some 38) .nil (.nd (some 33) .nil .nil)))))) .nil .nil) .nil) .nil) .nil))
  ini := (.nd none (.nd none (.nd none (.nd none (.nd (some 13) .nil .nil) .nil) .nil) .nil) (.nd none (.nd none (.nd none (.nd (some 29) .nil .nil) .nil) .nil) .nil))
  kit := (.nd (some (.nd (some false) (.nd (some false) (.nd (some false) .nil .nil) .nil) (.nd (some false) (.nd (some false) .nil .nil) .nil))) (.nd (some (.nd (some true) (.nd (some true) (.nd (some false) .nil .nil) .nil) (.nd (some false) (.nd (some false) .nil .nil) .nil))) (.nd (some (.nd (some false) (.nd (some false) (.nd (some false) .nil .nil) .nil) (.nd (some true) (.nd (some false) .nil .nil) .nil))) .nil .nil) (.nd (some (.nd (some false) (.nd (some false) (.nd (some false) .nil .nil) .nil) (.nd (some false) (.nd (some true) .nil .nil) .nil))) .nil .nil)) (.nd (some (.nd (some true) (.nd (some false) (.nd (some false) .nil .nil) .nil) (.nd (some false) (.nd (some false) .nil .nil) .nil))) (.nd (some (.nd (some false) (.nd (some false) (.nd (some true) .nil .nil) .nil) (.nd (some false) (.nd (some false) .nil .nil) .nil))) (.nd none (.nd (some (.nd none (.nd none (.nd none (.nd (some false) (.nd (some false) .nil .nil) .nil) (.nd (some false) (.nd (some false) .nil .nil) .nil)) (.nd (some true) (.nd (some false) (.nd (some false) .nil .nil) .nil) (.nd (some false) (.nd (some false) .nil .nil) .nil))) (.nd none (.nd none (.nd (some true) (.nd (some false) .nil .nil) .nil) (.nd (some true) (.nd (some false) .nil .nil) .nil)) (.nd (some false) (.nd (some false) (.nd (some false) .nil .nil) .nil) (.nd (some false) (.nd (some false) .nil .nil) .nil))))) (.nd (some (.nd none (.nd none (.nd none (.nd (some false) (.nd (some false) .nil .nil) .nil) (.nd (some false) (.nd (some false) .nil .nil) .nil)) (.nd (some true) (.nd (some false) (.nd (some false) .nil .nil) .nil) (.nd (some false) (.nd (some false) .nil .nil) .nil))) (.nd none (.nd none (.nd (some true) (.nd (some false) .nil .nil) .nil) (.nd (some false) (.nd (some true) .nil .nil) .nil)) (.nd (some false) (.nd (some false) (.nd (some false) .nil .nil) .nil) (.nd (some false) (.nd (some false) .nil .nil) .nil))))) .nil .nil) .nil) (.nd (some (.nd none (.nd none (.nd none (.nd (some false) (.nd (some false) .nil .nil) .nil) (.nd (some false) (.nd (some false) .nil .nil) .nil)) (.nd (some true) (.nd (some false) (.nd (some false) .nil .nil) .nil) (.nd (some false) (.nd (some false) .nil .nil) .nil))) (.nd none (.nd none (.nd (some true) (.nd (some true) .nil .nil) .nil) (.nd (some false) (.nd (some false) .nil .nil) .nil)) (.nd (some false) (.nd (some false) (.nd (some false) .nil .nil) .nil) (.nd (some false) (.nd (some false) .nil .nil) .nil))))) .nil .nil)) (.nd (some (.nd none (.nd none (.nd none (.nd (some false) (.nd (some false) .nil .nil) .nil) (.nd (some false) (.nd (some false) .nil .nil) .nil)) (.nd (some true) (.nd (some false) (.nd (some false) .nil .nil) .nil) (.nd (some false) (.nd (some false) .nil .nil) .nil))) (.nd none (.nd none (.nd (some true) (.nd (some false) .nil .nil) .nil) (.nd (some false) (.nd (some false) .nil .nil) .nil)) (.nd (some false) (.nd (some true) (.nd (some false) .nil .nil) .nil) (.nd (some false) (.nd (some false) .nil .nil) .nil))))) (.nd (some (.nd none (.nd none (.nd none (.nd (some false) (.nd (some false) .nil .nil) .nil) (.nd (some false) (.nd (some false) .nil .nil) .nil)) (.nd (some true) (.nd (some false) (.nd (some false) .nil .nil) .nil) (.nd (some false) (.nd (some false) .nil .nil) .nil))) (.nd none (.nd none (.nd (some true) (.nd (some false) .nil .nil) .nil) (.nd (some false) (.nd (some false) .nil .nil) .nil)) (.nd (some false) (.nd (some false) (.nd (some false) .nil .nil) .nil) (.nd (some true) (.nd (some false) .nil .nil) .nil))))) (.nd (some (.nd none (.nd none (.nd none (.nd (some true) (.nd (some false) .nil .nil) .nil) (.nd (some false) (.nd (some false) .nil .nil) .nil)) (.nd (some false) (.nd (some false) (.nd (some false) .nil .nil) .nil) (.nd (some false) (.nd (some false) .nil .nil) .nil))) (.nd none (.nd none (.nd (some false) (.nd (some false) .nil .nil) .nil) (.nd (some false) (.nd (some false) .nil .nil) .nil)) (.nd (some true) (.nd (some false) (.nd (some false) .nil .nil) .nil) (.nd (some false) (.nd (some true) .nil .nil) .nil))))) .nil .nil) .nil) (.nd (some (.nd none (.nd none (.nd none (.nd (some false) (.nd (some false) .nil .nil) .nil) (.nd (some false) (.nd (some false) .nil .nil) .nil)) (.nd (some true) (.nd (some false) (.nd (some false) .nil .nil) .nil) (.nd (some false) (.nd (some false) .nil .nil) .nil))) (.nd none (.nd none (.nd (some true) (.nd (some false) .nil .nil) .nil) (.nd (some false) (.nd (some false) .nil .nil) .nil)) (.nd (some false) (.nd (some false) (.nd (some true) .nil .nil) .nil) (.nd (some false) (.nd (some false) .nil .nil) .nil))))) .nil .nil))) (.nd none (.nd none (.nd (some (.nd none (.nd none (.nd none (.nd (some false) (.nd (some false) .nil .nil) .nil) (.nd (some false) (.nd (some false) .nil .nil) .nil)) (.nd (some true) (.nd (some false) (.nd (some false) .nil .nil) .nil) (.nd (some true) (.nd (some false) .nil .nil) .nil))) (.nd none (.nd none (.nd (some true) (.nd (some false) .nil .nil) .nil) (.nd (some false) (.nd (some false) .nil .nil) .nil)) (.nd (some false) (.nd (some false) (.nd (some false) .nil .nil) .nil) (.nd (some false) (.nd (some false) .nil .nil) .nil))))) (.nd (some (.nd none (.nd none (.nd none (.nd (some false) (.nd (some false) .nil .nil) .nil) (.nd (some false) (.nd (some false) .nil .nil) .nil)) (.nd (some false) (.nd (some true) (.nd (some false) .nil .nil) .nil) (.nd (some false) (.nd (some true) .nil .nil) .nil))) (.nd none (.nd none (.nd (some false) (.nd (some false) .nil .nil) .nil) (.nd (some false) (.nd (some false) .nil .nil) .nil)) (.nd (some true) (.nd (some false) (.nd (some false) .nil .nil) .nil) (.nd (some false) (.nd (some false) .nil .nil) .nil))))) .nil .nil) .nil) (.nd (some (.nd none (.nd none (.nd none (.nd (some false) (.nd (some false) .nil .nil) .nil) (.nd (some false) (.nd (some false) .nil .nil) .nil)) (.nd (some true) (.nd (some false) (.nd (some true) .nil .nil) .nil) (.nd (some false) (.nd (some false) .nil .nil) .nil))) (.nd none (.nd none (.nd (some true) (.nd (some false) .nil .nil) .nil) (.nd (some false) (.nd (some false) .nil .nil) .nil)) (.nd (some false) (.nd (some false) (.nd (some false) .nil .nil) .nil) (.nd (some false) (.nd (some false) .nil .nil) .nil))))) .nil .nil)) (.nd (some (.nd none (.nd none (.nd none (.nd (some false) (.nd (some false) .nil .nil) .nil) (.nd (some true) (.nd (some false) .nil .nil) .nil)) (.nd (some true) (.nd (some false) (.nd (some false) .nil .nil) .nil) (.nd (some false) (.nd (some false) .nil .nil) .nil))) (.nd none (.nd none (.nd (some true) (.nd (some false) .nil .nil) .nil) (.nd (some false) (.nd (some false) .nil .nil) .nil)) (.nd (some false) (.nd (some false) (.nd (some false) .nil .nil) .nil) (.nd (some false) (.nd (some false) .nil .nil) .nil))))) (.nd (some (.nd none (.nd none (.nd none (.nd (some false) (.nd (some true) .nil .nil) .nil) (.nd (some false) (.nd (some false) .nil .nil) .nil)) (.nd (some true) (.nd (some false) (.nd (some false) .nil .nil) .nil) (.nd (some false) (.nd (some false) .nil .nil) .nil))) (.nd none (.nd none (.nd (some true) (.nd (some false) .nil .nil) .nil) (.nd (some false) (.nd (some false) .nil .nil) .nil)) (.nd (some false) (.nd (some false) (.nd (some false) .nil .nil) .nil) (.nd (some false) (.nd (some false) .nil .nil) .nil))))) .nil .nil) (.nd (some (.nd none (.nd none (.nd none (.nd (some false) (.nd (some false) .nil .nil) .nil) (.nd (some false) (.nd (some true) .nil .nil) .nil)) (.nd (some true) (.nd (some false) (.nd (some false) .nil .nil) .nil) (.nd (some false) (.nd (some false) .nil .nil) .nil))) (.nd none (.nd none (.nd (some true) (.nd (some false) .nil .nil) .nil) (.nd (some false) (.nd (some false) .nil .nil) .nil)) (.nd (some false) (.nd (some false) (.nd (some false) .nil .nil) .nil) (.nd (some false) (.nd (some false) .nil .nil) .nil))))) .nil .nil)))))
  okC := (.nd none (.nd none (.nd none (.nd none (.nd (some ()) .nil .nil) .nil) .nil) .nil) (.nd none (.nd none (.nd none (.nd (some ()) .nil .nil) .nil) .nil) .nil))
  exc := (.nd none (.nd none (.nd (some (18, [85, 110, 114, 101, 97, 99, 104, 97, 98, 108, 101], some 24)) (.nd (some (18, [73, 110, 118, 97, 108, 105, 100, 78, 97, 109, 101], some 19)) .nil .nil) (.nd (some (18, [73, 110, 118, 97, 108, 105, 100, 76, 105, 109, 105, 116], some 19)) .nil .nil)) (.nd (some (18, [73, 110, 118, 97, 108, 105, 100, 67, 111, 117, 110, 116], some 19)) (.nd (some (18, [87, 114, 111, 110, 103, 75, 105, 110, 100], some 22)) .nil .nil) (.nd (some (18, [85, 110, 107, 110, 111, 119, 110, 78, 97, 109, 101], some 22)) .nil .nil))) (.nd (some (18, [73, 110, 118, 97, 108, 105, 100, 84, 97, 98, 108, 101], some 23)) (.nd (some (18, [83, 105, 110, 103, 108, 101, 82, 105, 110, 103], none)) (.nd (some (18, [68, 117, 112, 108, 105, 99, 97, 116, 101, 78, 97, 109, 101], some 22)) .nil .nil) (.nd (some (18, [73, 110, 118, 97, 108, 105, 100, 84, 101, 120, 116], none)) .nil .nil)) (.nd (some (18, [73, 110, 118, 97, 108, 105, 100, 72, 101, 97, 112], none)) (.nd (some (18, [67, 97, 112, 97, 99, 105, 116, 121, 69, 120, 99, 101, 101, 100, 101, 100], some 25)) .nil .nil) (.nd (some (18, [78, 111, 116, 104, 105, 110, 103, 76, 101, 102, 116], none)) .nil .nil))))
  exk := (.nd none (.nd none (.nd (some 24) (.nd (some 19) .nil .nil) (.nd (some 19) .nil .nil)) (.nd (some 19) (.nd (some 22) .nil .nil) (.nd (some 22) .nil .nil))) (.nd (some 23) (.nd none (.nd (some 22) .nil .nil) .nil) (.nd none (.nd (some 25) .nil .nil) .nil)))
  xfl := (.nd none (.nd none (.nd (some (.nd none .nil (.nd none (.nd none (.nd none .nil (.nd (some ()) .nil .nil)) .nil) (.nd none (.nd none (.nd (some ()) .nil .nil) .nil) .nil)))) (.nd (some (.nd none (.nd none (.nd none .nil (.nd none (.nd (some ()) .nil .nil) .nil)) .nil) (.nd none .nil (.nd none (.nd none (.nd (some ()) .nil .nil) .nil) .nil)))) .nil .nil) (.nd (some (.nd none (.nd none (.nd none .nil (.nd none (.nd (some ()) .nil .nil) .nil)) .nil) (.nd none .nil (.nd none (.nd none (.nd (some ()) .nil .nil) .nil) .nil)))) .nil .nil)) (.nd (some (.nd none (.nd none (.nd none .nil (.nd none (.nd (some ()) .nil .nil) .nil)) .nil) (.nd none .nil (.nd none (.nd none (.nd (some ()) .nil .nil) .nil) .nil)))) (.nd (some (.nd none .nil (.nd none .nil (.nd none (.nd none (.nd (some ()) .nil .nil) .nil) (.nd none (.nd (some ()) .nil .nil) .nil))))) .nil .nil) (.nd (some (.nd none .nil (.nd none .nil (.nd none (.nd none (.nd (some ()) .nil .nil) .nil) (.nd none (.nd (some ()) .nil .nil) .nil))))) .nil .nil))) (.nd (some (.nd none (.nd none (.nd none (.nd none .nil (.nd (some ()) .nil .nil)) .nil) .nil) (.nd none .nil (.nd none (.nd none (.nd (some ()) .nil .nil) .nil) .nil)))) (.nd (some (.nd none .nil (.nd none .nil (.nd none (.nd none (.nd (some ()) .nil .nil) .nil) .nil)))) (.nd (some (.nd none .nil (.nd none .nil (.nd none (.nd none (.nd (some ()) .nil .nil) .nil) (.nd none (.nd (some ()) .nil .nil) .nil))))) .nil .nil) (.nd (some (.nd none .nil (.nd none .nil (.nd none (.nd none (.nd (some ()) .nil .nil) .nil) .nil)))) .nil .nil)) (.nd (some (.nd none .nil (.nd none .nil (.nd none (.nd none (.nd (some ()) .nil .nil) .nil) .nil)))) (.nd (some (.nd none (.nd none .nil (.nd none (.nd none .nil (.nd (some ()) .nil .nil)) .nil)) (.nd none .nil (.nd none (.nd none (.nd (some ()) .nil .nil) .nil) .nil)))) .nil .nil) (.nd (some (.nd none .nil (.nd none .nil (.nd none (.nd none (.nd (some ()) .nil .nil) .nil) .nil)))) .nil .nil))))
  xat := (.nd none (.nd none (.nd (some 1) (.nd (some 5) .nil .nil) (.nd (some 9) .nil .nil)) (.nd (some 3) (.nd (some 7) .nil .nil) (.nd (some 11) .nil .nil))) (.nd (some 0) (.nd (some 2) (.nd (some 6) .nil .nil) (.nd (some 10) .nil .nil)) (.nd (some 4) (.nd (some 8) .nil .nil) (.nd (some 12) .nil .nil))))
  fn := (df1 :: df2 :: df3 :: df4 :: df5 :: df8 :: df9 :: df10 :: df11 :: df12 :: df13 :: df14 :: df16 :: df29 :: df30 :: df31 :: df32 :: df33 :: df36 :: df37 :: df38 :: df39 :: df41 :: df43 :: df45 :: df50 :: df51 :: df53 :: df55 :: df57 :: df59 :: df60 :: df61 :: df62 :: df63 :: df64 :: df67 :: dfL :: dfW :: dfF :: [])
  fx := [xd0, xd1, xd2, xd3, xd4, xd5, xd6, xd7, xd8, xd9, xd10, xd11, xd12]
  kns := [some "row", some "place", none, some "given", none, some "given", some "name", some "name", some "limit", some "given", none, some "name", none]
  cat := (.nd none (.nd none (.nd (some true) (.nd (some true) .nil .nil) (.nd (some true) .nil .nil)) (.nd (some true) (.nd (some true) .nil .nil) (.nd (some true) .nil .nil))) (.nd (some true) (.nd (some true) (.nd (some true) .nil .nil) (.nd (some true) .nil .nil)) (.nd (some true) (.nd (some true) .nil .nil) (.nd (some true) .nil .nil))))
  cc := (0, 13, 14)
  wfx := some wpD
  lenM := 37
  lams := [dfL]
theorem xb0 : XBind xd0 (some "row") := ⟨fun _ _ _ _ _ us hl => match us, hl with | [_, _], _ => rfl, fun k e => by cases e; all_goals (intros; rfl)⟩
theorem xb1 : XBind xd1 (some "place") := ⟨fun _ _ _ _ _ us hl => match us, hl with | [_, _], _ => rfl, fun k e => by cases e; all_goals (intros; rfl)⟩
theorem xb2 : XBind xd2 none := ⟨fun _ _ _ _ _ us hl => match us, hl with | [_], _ => rfl, fun k e => by cases e; all_goals (intros; rfl)⟩
theorem xb3 : XBind xd3 (some "given") := ⟨fun _ _ _ _ _ us hl => match us, hl with | [_, _], _ => rfl, fun k e => by cases e; all_goals (intros; rfl)⟩
theorem xb4 : XBind xd4 none := ⟨fun _ _ _ _ _ us hl => match us, hl with | [_], _ => rfl, fun k e => by cases e; all_goals (intros; rfl)⟩
theorem xb5 : XBind xd5 (some "given") := ⟨fun _ _ _ _ _ us hl => match us, hl with | [_, _], _ => rfl, fun k e => by cases e; all_goals (intros; rfl)⟩
theorem xb6 : XBind xd6 (some "name") := ⟨fun _ _ _ _ _ us hl => match us, hl with | [_, _], _ => rfl, fun k e => by cases e; all_goals (intros; rfl)⟩
theorem xb7 : XBind xd7 (some "name") := ⟨fun _ _ _ _ _ us hl => match us, hl with | [_, _], _ => rfl, fun k e => by cases e; all_goals (intros; rfl)⟩
theorem xb8 : XBind xd8 (some "limit") := ⟨fun _ _ _ _ _ us hl => match us, hl with | [_, _], _ => rfl, fun k e => by cases e; all_goals (intros; rfl)⟩
theorem xb9 : XBind xd9 (some "given") := ⟨fun _ _ _ _ _ us hl => match us, hl with | [_, _], _ => rfl, fun k e => by cases e; all_goals (intros; rfl)⟩
theorem xb10 : XBind xd10 none := ⟨fun _ _ _ _ _ us hl => match us, hl with | [_], _ => rfl, fun k e => by cases e; all_goals (intros; rfl)⟩
theorem xb11 : XBind xd11 (some "name") := ⟨fun _ _ _ _ _ us hl => match us, hl with | [_, _], _ => rfl, fun k e => by cases e; all_goals (intros; rfl)⟩
theorem xb12 : XBind xd12 none := ⟨fun _ _ _ _ _ us hl => match us, hl with | [_], _ => rfl, fun k e => by cases e; all_goals (intros; rfl)⟩
theorem xbs : XBs D := .cons xb0 (.cons xb1 (.cons xb2 (.cons xb3 (.cons xb4 (.cons xb5 (.cons xb6 (.cons xb7 (.cons xb8 (.cons xb9 (.cons xb10 (.cons xb11 (.cons xb12 (.nil)))))))))))))
theorem sc1 : FnScope nm1 pr1 df1.scope := ⟨rfl, rfl, rfl, by decide +kernel, rfl, by decide +kernel, by decide +kernel⟩
theorem cc1 : cSs 40 40 ⟨nm1, df1.scope, gt0, anL, false⟩ df1.body = some bd1 := by kernel_rfl
theorem dd1 : DD D 1 := ⟨0, df1, gt0, nm1, pr1, 40, 40, fi1, rfl, rfl, List.mem_of_getElem? (i := 0) rfl, sc1, rfl, rfl, rfl, by decide, cc1, fun M K fd hM F => ⟨dfs_none rfl rfl (fun _ _ _ _ _ _ us hl => match us, hl with | [_], _ => rfl) M K fd F, fun _ _ _ h => absurd h List.not_mem_nil⟩⟩
theorem sc2 : FnScope nm2 pr2 df2.scope := ⟨rfl, rfl, rfl, by decide +kernel, rfl, by decide +kernel, by decide +kernel⟩
theorem cc2 : cSs 40 40 ⟨nm2, df2.scope, gt0, anL, false⟩ df2.body = some bd2 := by kernel_rfl
theorem dd2 : DD D 2 := ⟨1, df2, gt0, nm2, pr2, 40, 40, fi2, rfl, rfl, List.mem_of_getElem? (i := 0) rfl, sc2, rfl, rfl, rfl, by decide, cc2, fun M K fd hM F => ⟨dfs_none rfl rfl (fun _ _ _ _ _ _ us hl => match us, hl with | [_, _, _], _ => rfl) M K fd F, fun _ _ _ h => absurd h List.not_mem_nil⟩⟩
theorem sc3 : FnScope nm3 pr3 df3.scope := ⟨rfl, rfl, rfl, by decide +kernel, rfl, by decide +kernel, by decide +kernel⟩
theorem cc3 : cSs 40 40 ⟨nm3, df3.scope, gt0, anL, false⟩ df3.body = some bd3 := by kernel_rfl
theorem dd3 : DD D 3 := ⟨2, df3, gt0, nm3, pr3, 40, 40, fi3, rfl, rfl, List.mem_of_getElem? (i := 0) rfl, sc3, rfl, rfl, rfl, by decide, cc3, fun M K fd hM F => ⟨dfs_none rfl rfl (fun _ _ _ _ _ _ us hl => match us, hl with | [_], _ => rfl) M K fd F, fun _ _ _ h => absurd h List.not_mem_nil⟩⟩
theorem sc4 : FnScope nm4 pr4 df4.scope := ⟨rfl, rfl, rfl, by decide +kernel, rfl, by decide +kernel, by decide +kernel⟩
theorem cc4 : cSs 40 40 ⟨nm4, df4.scope, gt0, anL, false⟩ df4.body = some bd4 := by kernel_rfl
theorem dd4 : DD D 4 := ⟨3, df4, gt0, nm4, pr4, 40, 40, fi4, rfl, rfl, List.mem_of_getElem? (i := 0) rfl, sc4, rfl, rfl, rfl, by decide, cc4, fun M K fd hM F => ⟨dfs_none rfl rfl (fun _ _ _ _ _ _ us hl => match us, hl with | [_, _], _ => rfl) M K fd F, fun _ _ _ h => absurd h List.not_mem_nil⟩⟩
theorem sc5 : FnScope nm5 pr5 df5.scope := ⟨rfl, rfl, rfl, by decide +kernel, rfl, by decide +kernel, by decide +kernel⟩
theorem cc5 : cSs 40 40 ⟨nm5, df5.scope, gt0, anL, false⟩ df5.body = some bd5 := by kernel_rfl
theorem dd5 : DD D 5 := ⟨4, df5, gt0, nm5, pr5, 40, 40, fi5, rfl, rfl, List.mem_of_getElem? (i := 0) rfl, sc5, rfl, rfl, rfl, by decide, cc5, fun M K fd hM F => ⟨dfs_none rfl rfl (fun _ _ _ _ _ _ us hl => match us, hl with | [_], _ => rfl) M K fd F, fun _ _ _ h => absurd h List.not_mem_nil⟩⟩
theorem sc8 : FnScope nm8 pr8 df8.scope := ⟨rfl, rfl, rfl, by decide +kernel, rfl, by decide +kernel, by decide +kernel⟩
theorem cc8 : cSs 40 40 ⟨nm8, df8.scope, gt0, anL, false⟩ df8.body = some bd8 := by kernel_rfl
theorem dd8 : DD D 8 := ⟨5, df8, gt0, nm8, pr8, 40, 40, fi8, rfl, rfl, List.mem_of_getElem? (i := 0) rfl, sc8, rfl, rfl, rfl, by decide, cc8, fun M K fd hM F => ⟨dfs_none rfl rfl (fun _ _ _ _ _ _ us hl => match us, hl with | [_, _], _ => rfl) M K fd F, fun _ _ _ h => absurd h List.not_mem_nil⟩⟩
theorem sc9 : FnScope nm9 pr9 df9.scope := ⟨rfl, rfl, rfl, by decide +kernel, rfl, by decide +kernel, by decide +kernel⟩
theorem cc9 : cSs 40 40 ⟨nm9, df9.scope, gt0, anL, false⟩ df9.body = some bd9 := by kernel_rfl
theorem dd9 : DD D 9 := ⟨6, df9, gt0, nm9, pr9, 40, 40, fi9, rfl, rfl, List.mem_of_getElem? (i := 0) rfl, sc9, rfl, rfl, rfl, by decide, cc9, fun M K fd hM F => ⟨dfs_none rfl rfl (fun _ _ _ _ _ _ us hl => match us, hl with | [_], _ => rfl) M K fd F, fun _ _ _ h => absurd h List.not_mem_nil⟩⟩
theorem sc10 : FnScope nm10 pr10 df10.scope := ⟨rfl, rfl, rfl, by decide +kernel, rfl, by decide +kernel, by decide +kernel⟩
theorem cc10 : cSs 40 40 ⟨nm10, df10.scope, gt0, anL, false⟩ df10.body = some bd10 := by kernel_rfl
theorem dd10 : DD D 10 := ⟨7, df10, gt0, nm10, pr10, 40, 40, fi10, rfl, rfl, List.mem_of_getElem? (i := 0) rfl, sc10, rfl, rfl, rfl, by decide, cc10, fun M K fd hM F => ⟨dfs_none rfl rfl (fun _ _ _ _ _ _ us hl => match us, hl with | [_, _], _ => rfl) M K fd F, fun _ _ _ h => absurd h List.not_mem_nil⟩⟩
theorem sc11 : FnScope nm11 pr11 df11.scope := ⟨rfl, rfl, rfl, by decide +kernel, rfl, by decide +kernel, by decide +kernel⟩
theorem cc11 : cSs 40 40 ⟨nm11, df11.scope, gt0, anL, false⟩ df11.body = some bd11 := by kernel_rfl
theorem dd11 : DD D 11 := ⟨8, df11, gt0, nm11, pr11, 40, 40, fi11, rfl, rfl, List.mem_of_getElem? (i := 0) rfl, sc11, rfl, rfl, rfl, by decide, cc11, fun M K fd hM F => ⟨dfs_none rfl rfl (fun _ _ _ _ _ _ us hl => match us, hl with | [_], _ => rfl) M K fd F, fun _ _ _ h => absurd h List.not_mem_nil⟩⟩
theorem sc12 : FnScope nm12 pr12 df12.scope := ⟨rfl, rfl, rfl, by decide +kernel, rfl, by decide +kernel, by decide +kernel⟩
theorem cc12 : cSs 40 40 ⟨nm12, df12.scope, gt0, anL, false⟩ df12.body = some bd12 := by kernel_rfl
theorem dd12 : DD D 12 := ⟨9, df12, gt0, nm12, pr12, 40, 40, fi12, rfl, rfl, List.mem_of_getElem? (i := 0) rfl, sc12, rfl, rfl, rfl, by decide, cc12, fun M K fd hM F => ⟨dfs_none rfl rfl (fun _ _ _ _ _ _ us hl => match us, hl with | [_], _ => rfl) M K fd F, fun _ _ _ h => absurd h List.not_mem_nil⟩⟩
theorem sc13 : FnScope nm13 pr13 df13.scope := ⟨rfl, rfl, rfl, by decide +kernel, rfl, by decide +kernel, by decide +kernel⟩
theorem cc13 : cSs 40 40 ⟨nm13, df13.scope, gt0, anL, false⟩ df13.body = some bd13 := by kernel_rfl
theorem dd13 : DD D 13 := ⟨10, df13, gt0, nm13, pr13, 40, 40, fi13, rfl, rfl, List.mem_of_getElem? (i := 0) rfl, sc13, rfl, rfl, rfl, by decide, cc13, fun M K fd hM F => ⟨dfs_none rfl rfl (fun _ _ _ _ _ _ us hl => match us, hl with | [_, _], _ => rfl) M K fd F, fun _ _ _ h => absurd h List.not_mem_nil⟩⟩
theorem sc14 : FnScope nm14 pr14 df14.scope := ⟨rfl, rfl, rfl, by decide +kernel, rfl, by decide +kernel, by decide +kernel⟩
theorem cc14 : cSs 40 40 ⟨nm14, df14.scope, gt0, anL, false⟩ df14.body = some bd14 := by kernel_rfl
theorem dd14 : DD D 14 := ⟨11, df14, gt0, nm14, pr14, 40, 40, fi14, rfl, rfl, List.mem_of_getElem? (i := 0) rfl, sc14, rfl, rfl, rfl, by decide, cc14, fun M K fd hM F => ⟨dfs_none rfl rfl (fun _ _ _ _ _ _ us hl => match us, hl with | [_], _ => rfl) M K fd F, fun _ _ _ h => absurd h List.not_mem_nil⟩⟩
theorem sc16 : FnScope nm16 pr16 df16.scope := ⟨rfl, rfl, rfl, by decide +kernel, rfl, by decide +kernel, by decide +kernel⟩
theorem cc16 : cSs 40 40 ⟨nm16, df16.scope, gt0, anL, false⟩ df16.body = some bd16 := by kernel_rfl
theorem dd16 : DD D 16 := ⟨12, df16, gt0, nm16, pr16, 40, 40, fi16, rfl, rfl, List.mem_of_getElem? (i := 0) rfl, sc16, rfl, rfl, rfl, by decide, cc16, fun M K fd hM F => ⟨dfs_none rfl rfl (fun _ _ _ _ _ _ us hl => match us, hl with | [_], _ => rfl) M K fd F, fun _ _ _ h => absurd h List.not_mem_nil⟩⟩
def ag29 : Arguments := ⟨[], [⟨"self", none, ⟨212, 17, 212, 21⟩⟩, ⟨"ground", none, ⟨212, 23, 212, 29⟩⟩], none, [⟨"room", none, ⟨212, 34, 212, 38⟩⟩], [some (.Constant (.int (Int.ofNat 8)) 0 ⟨212, 39, 212, 40⟩)], none, []⟩
theorem ap29 : df29.params = ag29 := by kernel_rfl
theorem kc29 (name qual : Str) (body : List Stmt) (scope : Scope) : ∀ (D : Addr) (doc pm : Value) (an : Option Addr) (cdv ct : Value) (us ks : List Value), us.length = 2 → ks.length = 1 → KwChain D ((["room"] : List Str).zip ks) (bindArgs (PySem.W.fnOf name qual ag29 body scope .none (.ref D) doc pm an cdv ct) ⟨us, []⟩) ((["self", "ground", "room"] : List Str).zip (us ++ ks)) := fun _ _ _ _ _ _ us ks h1 h2 => match us, ks, h1, h2 with | [_, _], [_], _, _ => ⟨_, _, _, _, _, _, rfl, rfl, rfl⟩
theorem kl29 (name qual : Str) (body : List Stmt) (scope : Scope) : ∀ (D : Addr) (doc pm : Value) (an : Option Addr) (cdv ct : Value) (us mv ws : List Value), us.length = 1 → mv.length = 1 → ws.length = 1 → KwChain D ((["room"] : List Str).zip mv) (bindArgs (PySem.W.fnOf name qual ag29 body scope .none (.ref D) doc pm an cdv ct) ⟨us, (["ground"] : List Str).zip ws⟩) ((["self", "ground", "room"] : List Str).zip (us ++ ws ++ mv)) := fun _ _ _ _ _ _ us mv ws h1 h2 h3 => match us, mv, ws, h1, h2, h3 with | [_], [_], [_], _, _, _ => ⟨_, _, _, _, _, _, rfl, rfl, rfl⟩
theorem sc29 : FnScope nm29 pr29 df29.scope := ⟨rfl, rfl, rfl, by decide +kernel, rfl, by decide +kernel, by decide +kernel⟩
theorem cc29 : cSs 40 40 ⟨nm29, df29.scope, gt0, anL, false⟩ df29.body = some bd29 := by kernel_rfl
theorem dd29 : DD D 29 := ⟨13, df29, gt0, nm29, pr29, 40, 40, fi29, rfl, rfl, List.mem_of_getElem? (i := 0) rfl, sc29, rfl, rfl, rfl, by decide, cc29, fun M K fd hM F => ⟨dfs_kwo (d := df29) (sd := [(Va.int (Int.ofNat 8))]) (n := 2) rfl (by decide) rfl (fun _ _ => .cons rfl (.nil)) (fun D doc pm an cdv ct us ks h1 h2 => by rw [ap29]; exact kc29 _ _ _ _ D doc pm an cdv ct us ks h1 h2) M K fd F, fun _ _ _ h => (List.forall_mem_cons.mpr ⟨(kwD_none (d := df29) (n := 2) (ks := ["room"]) (by rw [hM]; rfl) rfl (fun _ _ _ _ _ _ us ws h1 h2 => match us, ws, h1, h2 with | [_, _], [_], _, _ => rfl) F), List.forall_mem_cons.mpr ⟨(kwD_lack (d := df29) (n := 1) (ks := ["ground"]) (sd := [(Va.int (Int.ofNat 8))]) (by rw [hM]; rfl) rfl (by decide) (fun _ _ => .cons rfl (.nil)) (fun D doc pm an cdv ct us mv ws h1 h2 h3 => by rw [ap29]; exact kl29 _ _ _ _ D doc pm an cdv ct us mv ws h1 h2 h3) F), fun _ h => absurd h List.not_mem_nil⟩⟩ : ∀ p ∈ [(2, [11], []), (1, [36], [(Va.int (Int.ofNat 8))])], KwD M K fd pr29 p.1 p.2.1 p.2.2) _ h⟩⟩
theorem sc30 : FnScope nm30 pr30 df30.scope := ⟨rfl, rfl, rfl, by decide +kernel, rfl, by decide +kernel, by decide +kernel⟩
theorem cc30 : cSs 40 40 ⟨nm30, df30.scope, gt0, anL, false⟩ df30.body = some bd30 := by kernel_rfl
theorem dd30 : DD D 30 := ⟨14, df30, gt0, nm30, pr30, 40, 40, fi30, rfl, rfl, List.mem_of_getElem? (i := 0) rfl, sc30, rfl, rfl, rfl, by decide, cc30, fun M K fd hM F => ⟨dfs_none rfl rfl (fun _ _ _ _ _ _ us hl => match us, hl with | [_, _], _ => rfl) M K fd F, fun _ _ _ h => absurd h List.not_mem_nil⟩⟩
theorem sc31 : FnScope nm31 pr31 df31.scope := ⟨rfl, rfl, rfl, by decide +kernel, rfl, by decide +kernel, by decide +kernel⟩
theorem cc31 : cSs 40 40 ⟨nm31, df31.scope, gt0, anL, false⟩ df31.body = some bd31 := by kernel_rfl
theorem dd31 : DD D 31 := ⟨15, df31, gt0, nm31, pr31, 40, 40, fi31, rfl, rfl, List.mem_of_getElem? (i := 0) rfl, sc31, rfl, rfl, rfl, by decide, cc31, fun M K fd hM F => ⟨dfs_none rfl rfl (fun _ _ _ _ _ _ us hl => match us, hl with | [_], _ => rfl) M K fd F, fun _ _ _ h => absurd h List.not_mem_nil⟩⟩
theorem sc32 : FnScope nm32 pr32 df32.scope := ⟨rfl, rfl, rfl, by decide +kernel, rfl, by decide +kernel, by decide +kernel⟩
theorem cc32 : cSs 40 40 ⟨nm32, df32.scope, gt0, anL, false⟩ df32.body = some bd32 := by kernel_rfl
theorem dd32 : DD D 32 := ⟨16, df32, gt0, nm32, pr32, 40, 40, fi32, rfl, rfl, List.mem_of_getElem? (i := 0) rfl, sc32, rfl, rfl, rfl, by decide, cc32, fun M K fd hM F => ⟨dfs_none rfl rfl (fun _ _ _ _ _ _ us hl => match us, hl with | [_, _], _ => rfl) M K fd F, fun _ _ _ h => absurd h List.not_mem_nil⟩⟩
theorem sc33 : FnScope nm33 pr33 df33.scope := ⟨rfl, rfl, rfl, by decide +kernel, rfl, by decide +kernel, by decide +kernel⟩
theorem cc33 : cSs 40 40 ⟨nm33, df33.scope, gt0, anL, false⟩ df33.body = some bd33 := by kernel_rfl
theorem dd33 : DD D 33 := ⟨17, df33, gt0, nm33, pr33, 40, 40, fi33, rfl, rfl, List.mem_of_getElem? (i := 0) rfl, sc33, rfl, rfl, rfl, by decide, cc33, fun M K fd hM F => ⟨dfs_none rfl rfl (fun _ _ _ _ _ _ us hl => match us, hl with | [_, _], _ => rfl) M K fd F, fun _ _ _ h => (List.forall_mem_cons.mpr ⟨(kwD_none (d := df33) (n := 1) (ks := ["value"]) (by rw [hM]; rfl) rfl (fun _ _ _ _ _ _ us ws h1 h2 => match us, ws, h1, h2 with | [_], [_], _, _ => rfl) F), fun _ h => absurd h List.not_mem_nil⟩ : ∀ p ∈ [(1, [31], [])], KwD M K fd pr33 p.1 p.2.1 p.2.2) _ h⟩⟩
theorem sc36 : FnScope nm36 pr36 df36.scope := ⟨rfl, rfl, rfl, by decide +kernel, rfl, by decide +kernel, by decide +kernel⟩
theorem cc36 : cSs 40 40 ⟨nm36, df36.scope, gt0, anL, false⟩ df36.body = some bd36 := by kernel_rfl
theorem dd36 : DD D 36 := ⟨18, df36, gt0, nm36, pr36, 40, 40, fi36, rfl, rfl, List.mem_of_getElem? (i := 0) rfl, sc36, rfl, rfl, rfl, by decide, cc36, fun M K fd hM F => ⟨dfs_none rfl rfl (fun _ _ _ _ _ _ us hl => match us, hl with | [_], _ => rfl) M K fd F, fun _ _ _ h => absurd h List.not_mem_nil⟩⟩
theorem sc37 : FnScope nm37 pr37 df37.scope := ⟨rfl, rfl, rfl, by decide +kernel, rfl, by decide +kernel, by decide +kernel⟩
theorem cc37 : cSs 40 40 ⟨nm37, df37.scope, gt0, anL, false⟩ df37.body = some bd37 := by kernel_rfl
theorem dd37 : DD D 37 := ⟨19, df37, gt0, nm37, pr37, 40, 40, fi37, rfl, rfl, List.mem_of_getElem? (i := 0) rfl, sc37, rfl, rfl, rfl, by decide, cc37, fun M K fd hM F => ⟨dfs_none rfl rfl (fun _ _ _ _ _ _ us hl => match us, hl with | [_, _, _, _], _ => rfl) M K fd F, fun _ _ _ h => absurd h List.not_mem_nil⟩⟩
theorem sc38 : FnScope nm38 pr38 df38.scope := ⟨rfl, rfl, rfl, by decide +kernel, rfl, by decide +kernel, by decide +kernel⟩
theorem cc38 : cSs 40 40 ⟨nm38, df38.scope, gt0, anL, false⟩ df38.body = some bd38 := by kernel_rfl
theorem dd38 : DD D 38 := ⟨20, df38, gt0, nm38, pr38, 40, 40, fi38, rfl, rfl, List.mem_of_getElem? (i := 0) rfl, sc38, rfl, rfl, rfl, by decide, cc38, fun M K fd hM F => ⟨dfs_none rfl rfl (fun _ _ _ _ _ _ us hl => match us, hl with | [_, _], _ => rfl) M K fd F, fun _ _ _ h => absurd h List.not_mem_nil⟩⟩
theorem sc39 : FnScope nm39 pr39 df39.scope := ⟨rfl, rfl, rfl, by decide +kernel, rfl, by decide +kernel, by decide +kernel⟩
theorem cc39 : cSs 40 40 ⟨nm39, df39.scope, gt0, anL, false⟩ df39.body = some bd39 := by kernel_rfl
theorem dd39 : DD D 39 := ⟨21, df39, gt0, nm39, pr39, 40, 40, fi39, rfl, rfl, List.mem_of_getElem? (i := 0) rfl, sc39, rfl, rfl, rfl, by decide, cc39, fun M K fd hM F => ⟨dfs_none rfl rfl (fun _ _ _ _ _ _ us hl => match us, hl with | [_, _, _], _ => rfl) M K fd F, fun _ _ _ h => absurd h List.not_mem_nil⟩⟩
theorem sc41 : FnScope nm41 pr41 df41.scope := ⟨rfl, rfl, rfl, by decide +kernel, rfl, by decide +kernel, by decide +kernel⟩
theorem cc41 : cSs 40 40 ⟨nm41, df41.scope, gt0, anL, false⟩ df41.body = some bd41 := by kernel_rfl
theorem dd41 : DD D 41 := ⟨22, df41, gt0, nm41, pr41, 40, 40, fi41, rfl, rfl, List.mem_of_getElem? (i := 0) rfl, sc41, rfl, rfl, rfl, by decide, cc41, fun M K fd hM F => ⟨dfs_none rfl rfl (fun _ _ _ _ _ _ us hl => match us, hl with | [_, _, _], _ => rfl) M K fd F, fun _ _ _ h => absurd h List.not_mem_nil⟩⟩
theorem sc43 : FnScope nm43 pr43 df43.scope := ⟨rfl, rfl, rfl, by decide +kernel, rfl, by decide +kernel, by decide +kernel⟩
theorem cc43 : cSs 40 40 ⟨nm43, df43.scope, gt0, anL, false⟩ df43.body = some bd43 := by kernel_rfl
theorem dd43 : DD D 43 := ⟨23, df43, gt0, nm43, pr43, 40, 40, fi43, rfl, rfl, List.mem_of_getElem? (i := 0) rfl, sc43, rfl, rfl, rfl, by decide, cc43, fun M K fd hM F => ⟨dfs_none rfl rfl (fun _ _ _ _ _ _ us hl => match us, hl with | [_, _], _ => rfl) M K fd F, fun _ _ _ h => absurd h List.not_mem_nil⟩⟩
theorem sc45 : FnScope nm45 pr45 df45.scope := ⟨rfl, rfl, rfl, by decide +kernel, rfl, by decide +kernel, by decide +kernel⟩
theorem cc45 : cSs 40 40 ⟨nm45, df45.scope, gt0, anL, false⟩ df45.body = some bd45 := by kernel_rfl
theorem dd45 : DD D 45 := ⟨24, df45, gt0, nm45, pr45, 40, 40, fi45, rfl, rfl, List.mem_of_getElem? (i := 0) rfl, sc45, rfl, rfl, rfl, by decide, cc45, fun M K fd hM F => ⟨dfs_none rfl rfl (fun _ _ _ _ _ _ us hl => match us, hl with | [_], _ => rfl) M K fd F, fun _ _ _ h => absurd h List.not_mem_nil⟩⟩
theorem sc50 : FnScope nm50 pr50 df50.scope := ⟨rfl, rfl, rfl, by decide +kernel, rfl, by decide +kernel, by decide +kernel⟩
theorem cc50 : cSs 40 40 ⟨nm50, df50.scope, gt0, anL, false⟩ df50.body = some bd50 := by kernel_rfl
theorem dd50 : DD D 50 := ⟨25, df50, gt0, nm50, pr50, 40, 40, fi50, rfl, rfl, List.mem_of_getElem? (i := 0) rfl, sc50, rfl, rfl, rfl, by decide, cc50, fun M K fd hM F => ⟨dfs_none rfl rfl (fun _ _ _ _ _ _ us hl => match us, hl with | [_, _], _ => rfl) M K fd F, fun _ _ _ h => absurd h List.not_mem_nil⟩⟩
theorem sc51 : FnScope nm51 pr51 df51.scope := ⟨rfl, rfl, rfl, by decide +kernel, rfl, by decide +kernel, by decide +kernel⟩
theorem cc51 : cSs 40 40 ⟨nm51, df51.scope, gt0, anL, false⟩ df51.body = some bd51 := by kernel_rfl
theorem dd51 : DD D 51 := ⟨26, df51, gt0, nm51, pr51, 40, 40, fi51, rfl, rfl, List.mem_of_getElem? (i := 0) rfl, sc51, rfl, rfl, rfl, by decide, cc51, fun M K fd hM F => ⟨dfs_none rfl rfl (fun _ _ _ _ _ _ us hl => match us, hl with | [_, _, _], _ => rfl) M K fd F, fun _ _ _ h => absurd h List.not_mem_nil⟩⟩
theorem sc53 : FnScope nm53 pr53 df53.scope := ⟨rfl, rfl, rfl, by decide +kernel, rfl, by decide +kernel, by decide +kernel⟩
theorem cc53 : cSs 40 40 ⟨nm53, df53.scope, gt0, anL, false⟩ df53.body = some bd53 := by kernel_rfl
theorem dd53 : DD D 53 := ⟨27, df53, gt0, nm53, pr53, 40, 40, fi53, rfl, rfl, List.mem_of_getElem? (i := 0) rfl, sc53, rfl, rfl, rfl, by decide, cc53, fun M K fd hM F => ⟨dfs_none rfl rfl (fun _ _ _ _ _ _ us hl => match us, hl with | [_, _], _ => rfl) M K fd F, fun _ _ _ h => absurd h List.not_mem_nil⟩⟩
theorem sc55 : FnScope nm55 pr55 df55.scope := ⟨rfl, rfl, rfl, by decide +kernel, rfl, by decide +kernel, by decide +kernel⟩
theorem cc55 : cSs 40 40 ⟨nm55, df55.scope, gt0, anL, false⟩ df55.body = some bd55 := by kernel_rfl
theorem dd55 : DD D 55 := ⟨28, df55, gt0, nm55, pr55, 40, 40, fi55, rfl, rfl, List.mem_of_getElem? (i := 0) rfl, sc55, rfl, rfl, rfl, by decide, cc55, fun M K fd hM F => ⟨dfs_none rfl rfl (fun _ _ _ _ _ _ us hl => match us, hl with | [_], _ => rfl) M K fd F, fun _ _ _ h => absurd h List.not_mem_nil⟩⟩
theorem sc57 : FnScope nm57 pr57 df57.scope := ⟨rfl, rfl, rfl, by decide +kernel, rfl, by decide +kernel, by decide +kernel⟩
theorem cc57 : cSs 40 40 ⟨nm57, df57.scope, gt0, anL, false⟩ df57.body = some bd57 := by kernel_rfl
theorem dd57 : DD D 57 := ⟨29, df57, gt0, nm57, pr57, 40, 40, fi57, rfl, rfl, List.mem_of_getElem? (i := 0) rfl, sc57, rfl, rfl, rfl, by decide, cc57, fun M K fd hM F => ⟨dfs_none rfl rfl (fun _ _ _ _ _ _ us hl => match us, hl with | [_], _ => rfl) M K fd F, fun _ _ _ h => absurd h List.not_mem_nil⟩⟩
theorem sc59 : FnScope nm59 pr59 df59.scope := ⟨rfl, rfl, rfl, by decide +kernel, rfl, by decide +kernel, by decide +kernel⟩
theorem cc59 : cSs 40 40 ⟨nm59, df59.scope, gt0, anL, false⟩ df59.body = some bd59 := by kernel_rfl
theorem dd59 : DD D 59 := ⟨30, df59, gt0, nm59, pr59, 40, 40, fi59, rfl, rfl, List.mem_of_getElem? (i := 0) rfl, sc59, rfl, rfl, rfl, by decide, cc59, fun M K fd hM F => ⟨dfs_none rfl rfl (fun _ _ _ _ _ _ us hl => match us, hl with | [_], _ => rfl) M K fd F, fun _ _ _ h => absurd h List.not_mem_nil⟩⟩
theorem sc60 : FnScope nm60 pr60 df60.scope := ⟨rfl, rfl, rfl, by decide +kernel, rfl, by decide +kernel, by decide +kernel⟩
theorem cc60 : cSs 40 40 ⟨nm60, df60.scope, gt0, anL, false⟩ df60.body = some bd60 := by kernel_rfl
theorem dd60 : DD D 60 := ⟨31, df60, gt0, nm60, pr60, 40, 40, fi60, rfl, rfl, List.mem_of_getElem? (i := 0) rfl, sc60, rfl, rfl, rfl, by decide, cc60, fun M K fd hM F => ⟨dfs_none rfl rfl (fun _ _ _ _ _ _ us hl => match us, hl with | [_, _], _ => rfl) M K fd F, fun _ _ _ h => absurd h List.not_mem_nil⟩⟩
theorem sc61 : FnScope nm61 pr61 df61.scope := ⟨rfl, rfl, rfl, by decide +kernel, rfl, by decide +kernel, by decide +kernel⟩
theorem cc61 : cSs 40 40 ⟨nm61, df61.scope, gt0, anL, false⟩ df61.body = some bd61 := by kernel_rfl
theorem dd61 : DD D 61 := ⟨32, df61, gt0, nm61, pr61, 40, 40, fi61, rfl, rfl, List.mem_of_getElem? (i := 0) rfl, sc61, rfl, rfl, rfl, by decide, cc61, fun M K fd hM F => ⟨dfs_none rfl rfl (fun _ _ _ _ _ _ us hl => match us, hl with | [_, _], _ => rfl) M K fd F, fun _ _ _ h => absurd h List.not_mem_nil⟩⟩
theorem sc62 : FnScope nm62 pr62 df62.scope := ⟨rfl, rfl, rfl, by decide +kernel, rfl, by decide +kernel, by decide +kernel⟩
theorem cc62 : cSs 40 40 ⟨nm62, df62.scope, gt1, anL, false⟩ df62.body = some bd62 := by kernel_rfl
theorem dd62 : DD D 62 := ⟨33, df62, gt1, nm62, pr62, 40, 40, fi62, rfl, rfl, List.mem_of_getElem? (i := 1) rfl, sc62, rfl, rfl, rfl, by decide, cc62, fun M K fd hM F => ⟨dfs_none rfl rfl (fun _ _ _ _ _ _ us hl => match us, hl with | [_, _], _ => rfl) M K fd F, fun _ _ _ h => absurd h List.not_mem_nil⟩⟩
theorem sc63 : FnScope nm63 pr63 df63.scope := ⟨rfl, rfl, rfl, by decide +kernel, rfl, by decide +kernel, by decide +kernel⟩
theorem cc63 : cSs 40 40 ⟨nm63, df63.scope, gt2, anL, false⟩ df63.body = some bd63 := by kernel_rfl
theorem dd63 : DD D 63 := ⟨34, df63, gt2, nm63, pr63, 40, 40, fi63, rfl, rfl, List.mem_of_getElem? (i := 2) rfl, sc63, rfl, rfl, rfl, by decide, cc63, fun M K fd hM F => ⟨dfs_none rfl rfl (fun _ _ _ _ _ _ us hl => match us, hl with | [_, _], _ => rfl) M K fd F, fun _ _ _ h => absurd h List.not_mem_nil⟩⟩
theorem sc64 : FnScope nm64 pr64 df64.scope := ⟨rfl, rfl, rfl, by decide +kernel, rfl, by decide +kernel, by decide +kernel⟩
theorem cc64 : cSs 40 40 ⟨nm64, df64.scope, gt3, anL, false⟩ df64.body = some bd64 := by kernel_rfl
theorem dd64 : DD D 64 := ⟨35, df64, gt3, nm64, pr64, 40, 40, fi64, rfl, rfl, List.mem_of_getElem? (i := 3) rfl, sc64, rfl, rfl, rfl, by decide, cc64, fun M K fd hM F => ⟨dfs_none rfl rfl (fun _ _ _ _ _ _ us hl => match us, hl with | [_, _], _ => rfl) M K fd F, fun _ _ _ h => absurd h List.not_mem_nil⟩⟩
theorem sc67 : FnScope nm67 pr67 df67.scope := ⟨rfl, rfl, rfl, by decide +kernel, rfl, by decide +kernel, by decide +kernel⟩
theorem cc67 : cSs 40 40 ⟨nm67, df67.scope, gt0, anL, false⟩ df67.body = some bd67 := by kernel_rfl
theorem dd67 : DD D 67 := ⟨36, df67, gt0, nm67, pr67, 40, 40, fi67, rfl, rfl, List.mem_of_getElem? (i := 0) rfl, sc67, rfl, rfl, rfl, by decide, cc67, fun M K fd hM F => ⟨dfs_none rfl rfl (fun _ _ _ _ _ _ us hl => match us, hl with | [_, _], _ => rfl) M K fd F, fun _ _ _ h => absurd h List.not_mem_nil⟩⟩
def keys : List Nat := (1 :: 2 :: 3 :: 4 :: 5 :: 8 :: 9 :: 10 :: 11 :: 12 :: 13 :: 14 :: 16 :: 29 :: 30 :: 31 :: 32 :: 33 :: 36 :: 37 :: 38 :: 39 :: 41 :: 43 :: 45 :: 50 :: 51 :: 53 :: 55 :: 57 :: 59 :: 60 :: 61 :: 62 :: 63 :: 64 :: 67 :: [])
theorem dds : ∀ f ∈ keys, DD D f := List.forall_mem_cons.mpr ⟨dd1, List.forall_mem_cons.mpr ⟨dd2, List.forall_mem_cons.mpr ⟨dd3, List.forall_mem_cons.mpr ⟨dd4, List.forall_mem_cons.mpr ⟨dd5, List.forall_mem_cons.mpr ⟨dd8, List.forall_mem_cons.mpr ⟨dd9, List.forall_mem_cons.mpr ⟨dd10, List.forall_mem_cons.mpr ⟨dd11, List.forall_mem_cons.mpr ⟨dd12, List.forall_mem_cons.mpr ⟨dd13, List.forall_mem_cons.mpr ⟨dd14, List.forall_mem_cons.mpr ⟨dd16, List.forall_mem_cons.mpr ⟨dd29, List.forall_mem_cons.mpr ⟨dd30, List.forall_mem_cons.mpr ⟨dd31, List.forall_mem_cons.mpr ⟨dd32, List.forall_mem_cons.mpr ⟨dd33, List.forall_mem_cons.mpr ⟨dd36, List.forall_mem_cons.mpr ⟨dd37, List.forall_mem_cons.mpr ⟨dd38, List.forall_mem_cons.mpr ⟨dd39, List.forall_mem_cons.mpr ⟨dd41, List.forall_mem_cons.mpr ⟨dd43, List.forall_mem_cons.mpr ⟨dd45, List.forall_mem_cons.mpr ⟨dd50, List.forall_mem_cons.mpr ⟨dd51, List.forall_mem_cons.mpr ⟨dd53, List.forall_mem_cons.mpr ⟨dd55, List.forall_mem_cons.mpr ⟨dd57, List.forall_mem_cons.mpr ⟨dd59, List.forall_mem_cons.mpr ⟨dd60, List.forall_mem_cons.mpr ⟨dd61, List.forall_mem_cons.mpr ⟨dd62, List.forall_mem_cons.mpr ⟨dd63, List.forall_mem_cons.mpr ⟨dd64, List.forall_mem_cons.mpr ⟨dd67, fun _ h => absurd h List.not_mem_nil⟩⟩⟩⟩⟩⟩⟩⟩⟩⟩⟩⟩⟩⟩⟩⟩⟩⟩⟩⟩⟩⟩⟩⟩⟩⟩⟩⟩⟩⟩⟩⟩⟩⟩⟩⟩⟩
theorem keysok : D.fi.all (fun f _ => keys.contains f) id = true := by decide +kernel
theorem dd : ∀ f x, D.fi.get f = some x → DD D f := fun f x e => dds f (by simpa using BT.all_ok keysok e)
theorem scL : FnScope nmL ["_law_script"] dfL.scope := ⟨rfl, rfl, rfl, by decide +kernel, rfl, by decide +kernel, by decide +kernel⟩
theorem ccL : cSs 40 40 ⟨nmL, dfL.scope, gtL, anL, true⟩ dfL.body = some bdL := by kernel_rfl
theorem wyok : WyOk D gt0 wyD wpD := { hw := rfl, hf := rfl, aw := rfl, nw := rfl, qw := rfl, bw := by kernel_rfl, Sw := ⟨rfl, rfl, rfl, by decide +kernel, rfl, by decide +kernel, by decide +kernel⟩, lt := by kernel_rfl, le := by kernel_rfl, g1 := by kernel_rfl, g2 := by kernel_rfl, g3 := by kernel_rfl, g4 := by kernel_rfl, ok := by decide +kernel, okx := by decide +kernel, k1 := by kernel_rfl, k2 := by kernel_rfl, k3 := by kernel_rfl, k4 := ⟨65, by kernel_rfl, rfl⟩, kw := ⟨66, by kernel_rfl, rfl⟩, Sf := ⟨rfl, rfl, rfl, by decide +kernel, rfl, by decide +kernel, by decide +kernel⟩, nf := rfl, bf := by kernel_rfl, okf := by decide +kernel, wf := rfl, tg := rfl, dw0 := rfl, df0 := rfl, b1 := fun _ _ _ _ _ _ us hl => match us, hl with | [_], _ => rfl, b2 := fun _ _ _ _ _ _ us hl => match us, hl with | [_], _ => rfl }
-- law level 10, place 68, its place in fn 37
-- numbers: [(1, (.is_number, (0, 1))), (2, (.is_within, (0, 2))), (3, (.is_list, (0, 1))), (4, (.are_counts, (0, 2))), (5, (.is_name, (0, 1))), (8, (.check_heap, (0, 3))), (9, (.check_table, (0, 3))), (10, (.reached, (0, 1))), (11, (.transposed, (0, 1))), (12, (.check_joined, (0, 3))), (13, (Map.__init__, (0, 4))), (14, (Map.places, (0, 1))), (16, (Map.bouquet, (0, 6))), (29, (Yard.__init__, (0, 4))), (30, (Yard.check_limit, (0, 3))), (31, (Yard.room, (0, 1))), (32, (Yard.room, (0, 4))), (33, (Yard.set_room, (0, 7))), (36, (Yard.stand, (0, 1))), (37, (Yard.settle, (0, 2))), (38, (Yard.need_room, (0, 3))), (39, (Yard.board, (0, 3))), (41, (Yard.board_heap, (0, 4))), (43, (Yard.leave, (0, 4))), (45, (Yard.undo, (0, 3))), (50, (Yard.passenger, (0, 3))), (51, (Yard.passenger_of, (0, 4))), (53, (Yard.heap, (0, 5))), (55, (Yard.twin, (0, 6))), (57, (Yard.__len__, (0, 1))), (59, (._law_bag, (0, 1))), (60, (._law_pull, (0, 1))), (61, (._law_of, (0, 2))), (62, (._law_same, (1, 1))), (63, (._law_same, (2, 2))), (64, (._law_same, (3, 3))), (67, (._law_drawn_names, (0, 3)))]
-- bad: [Map.read, Map.__str__, Map.__repr__, Yard.turn, Yard.names, Yard.__repr__, ._law_why, .law]
end MP.K59
set_option linter.all false
set_option maxRecDepth 100000
set_option maxHeartbeats 0
namespace MP.K59
open PySem PySem.W PySem.Calls PyProof.Rows
abbrev R : OpenRow := OpenLaw.row PySem.Challenge.rw_coinroads_k59_limits_of_yards
abbrev qv : Program := view R.prog [48]
def names : List PySem.Str := (["_wall", "RoadError", "Missing", "InvalidTable", "Unreachable", "SingleRing", "InvalidCount", "InvalidHeap", "InvalidName", "DuplicateName", "WrongKind", "CapacityExceeded", "InvalidLimit", "InvalidText", "UnknownName", "NothingLeft", "FIGURES", "LETTERS", "MOST_DIGITS", "is_number", "is_within", "is_list", "are_counts", "is_name", "number_in", "numbers_in", "check_heap", "MOST_PLACES", "check_table", "reached"] : List PySem.Str) ++ (["transposed", "check_joined", "Map", "MOST_PASSENGERS", "Yard", "_law_bag", "_law_pull", "_law_of", "_law_same", "_law_field", "_law_why", "_law_drawn_names"] : List PySem.Str)
abbrev hk : Hook := hookW 5 D
def ob (s : SharedT) : AlW := obsWG 5 D (HandSHeadRun.getT s)
theorem ob_eq (s : SharedT) : ob s = hk.obs s.abs := obsWG_eq (HandSHeadRun.getT_eq s)
theorem run0A (w : World) : RunA R qv names (w.withFollow "special-get-raises" false) := by
  intro os
  kernel_rfl
theorem run0B (w : World) : RunB R 5 D (w.withFollow "special-get-raises" false) := by
  intro os
  kernel_rfl
theorem run0C (w : World) : RunC R 5 D (w.withFollow "special-get-raises" false) := by
  intro os
  kernel_rfl
theorem run0D (w : World) : RunD R 5 D (w.withFollow "special-get-raises" false) := by
  intro os
  kernel_rfl
theorem run0 (w : World) : HandSHeadRun.RunEq R qv hk ob 100000 names (w.withFollow "special-get-raises" false) := run_of (run0A w) (run0B w) (run0C w) (run0D w)
theorem run1A (w : World) : RunA R qv names (w.withFollow "special-get-raises" true) := by
  intro os
  kernel_rfl
theorem run1B (w : World) : RunB R 5 D (w.withFollow "special-get-raises" true) := by
  intro os
  kernel_rfl
theorem run1C (w : World) : RunC R 5 D (w.withFollow "special-get-raises" true) := by
  intro os
  kernel_rfl
theorem run1D (w : World) : RunD R 5 D (w.withFollow "special-get-raises" true) := by
  intro os
  kernel_rfl
theorem run1 (w : World) : HandSHeadRun.RunEq R qv hk ob 100000 names (w.withFollow "special-get-raises" true) := run_of (run1A w) (run1B w) (run1C w) (run1D w)
theorem run (w : World) : HandSHeadRun.RunEq R qv hk ob 100000 names w := byRow2 "special-get-raises" run0 run1 w
end MP.K59
set_option linter.all false
set_option maxRecDepth 100000
set_option maxHeartbeats 0
/-! The runs. -/
namespace MP.K59
open PySem PyProof.Rows
def epj (ks : List Nat) (r : Rs Va) : Option (Va × List (Option Ob) × Nat) := match r with
  | .ok v h => some (v, ks.map fun a => h.get a, h.n)
  | _ => none
def rpj (r : RS) : Bool := match r with
  | .rt (.bl b) _ => b
  | _ => false
abbrev OL : Orc := OrN D 5 9
abbrev TL : Tb := D.T.at 10
def lbody : List St := match bdL.drop 1 with
  | .for _ _ _ b :: _ => b
  | _ => []
def rest : List St := lbody.drop 4
def ck12 : List St := (lbody.drop 1).take 2
def h5 (oA o3 : Ob) : Hv := ofO [none, none, some oA, some o3, some (.lst [.int (Int.ofNat 5)])]
def frV (v : Va) : Fr := [none, some (.ref 3), none, none, none, none, none, none, none, none, none, none, none, some v, none]
def frG (g : Bool) (v : Va) : Fr := [none, some (.ref 3), none, some (.bl g), none, none, none, none, none, none, none, none, none, some v, none]
def yardX : Ex := .mk 16 [.call 16 [.cst (.int (Int.ofNat 3))]]
def yardR : Rs Va := (evs TL OL 3999).e (frG true .non) yardX (h5 (.lst []) (.lst []))
def ysY : List (Option Ob) := match yardR with
  | .ok _ h => (List.range (h.n - 5)).map fun i => h.get (i + 5)
  | _ => []
def nmz : List Va := [.tok 0, .tok 1, .tok 2, .tok 3, .tok 4, .tok 5, .tok 6, .tok 7, .tok 8, .tok 9, .tok 10, .tok 11, .tok 12, .tok 13, .tok 14, .tok 15, .tok 16, .tok 17, .tok 18, .tok 19, .tok 20, .tok 21]
def osR (oA o3 : Ob) : List (Option Ob) := [none, none, some oA, some o3, some (.lst [.int (Int.ofNat 5)])] ++ (ysY ++ [none, some (.lst nmz)])
def frR (g : Bool) (v : Va) (m : Int) (y n : Nat) : Fr := [none, some (.ref 3), none, some (.bl g), some (.int m), none, none, none, none, none, none, none, some (.ref n), some v, some (.ref y)]
def ksY : List Nat := [2, 3, 4, 5, 6, 7, 8, 9, 10, 11, 12, 13, 14, 15, 16, 17, 18, 19, 20, 21, 22, 23, 24, 25, 26, 27, 28, 29, 30]
theorem yard_ok (g : Bool) (v : Va) (oA o3 : Ob) : epj ksY ((evs TL OL 3999).e (frG g v) yardX (h5 oA o3)) = some (.ref 26, [some oA, some o3, some (.lst [.int (Int.ofNat 5)])] ++ ysY, 31) := by kernel_rfl
theorem ys_len : ysY.length = 26 := by kernel_rfl
theorem ys_clo : (ysY.all fun o => match o with
  | some o => cloO 33 o
  | none => true) = true := by kernel_rfl
def frE : Fr := [none, some (.ref 3), none, none, none, none, none, none, none, none, none, none, none, none, none]
theorem fin_ok (oA o3 : Ob) : rpj ((evs TL OL fuelN).s frE ((bdL.drop 2).headD .pass) (ofO [none, none, some oA, some o3])) = true := by kernel_rfl
def CK (v : Va) (g : Bool) : Prop := ∀ oA o3 : Ob, kpj 5 [1, 3, 13] [2, 3, 4] (evB (evs TL OL fuelN).s ck12 (frV v) (h5 oA o3)) = some ([some (some (.ref 3)), some (some (.bl g)), some (some v)], [some oA, some o3, some (.lst [.int (Int.ofNat 5)])], 15, true)
def RS (v : Va) (g : Bool) (m : Nat) : Prop := ∀ oA o3 : Ob, kpj 4 [1] [2, 3] (evB (evs TL OL fuelN).s rest (frR g v (Int.ofNat m) 26 32) (ofO (osR oA o3))) = some ([some (some (.ref 3))], [some oA, some o3], 15, true)
def vbig : Va := .int (Int.ofNat 10 ^ (Int.ofNat 30).toNat)
def V28 : List Va := [.int (Int.ofNat 0), .int (Int.ofNat 1), .int (Int.ofNat 2), .int (Int.ofNat 3), .int (Int.ofNat 4), .int (Int.ofNat 5), .int (Int.ofNat 6), .int (Int.ofNat 7), .int (Int.ofNat 8), .int (Int.ofNat 9), .int (Int.ofNat 10), .int (Int.ofNat 11), .int (Int.ofNat 12), .int (Int.ofNat 13), .int (Int.ofNat 14), .int (Int.ofNat 15), .int (Int.ofNat 16), .int (Int.ofNat 17), .int (Int.ofNat 18), .int (Int.ofNat 19), .int (Int.ofNat 20), .int (Int.ofNat 21), .int (-(Int.ofNat 1)), .non, .bl true, .str [53], .ref 4, .int (Int.ofNat 10 ^ (Int.ofNat 30).toNat)]
def AllR : Prop := ∀ v ∈ V28, ∃ g, CK v g ∧ ∀ m : Nat, m < 7 → RS v g m
end MP.K59
set_option linter.all false
set_option maxRecDepth 100000
set_option maxHeartbeats 0
namespace MP.K59
theorem ck_0 : CK (.int (Int.ofNat 0)) false := fun oA o3 => by kernel_rfl
theorem rs_0_0 : RS (.int (Int.ofNat 0)) false 0 := fun oA o3 => by kernel_rfl
theorem rs_0_1 : RS (.int (Int.ofNat 0)) false 1 := fun oA o3 => by kernel_rfl
theorem rs_0_2 : RS (.int (Int.ofNat 0)) false 2 := fun oA o3 => by kernel_rfl
theorem rs_0_3 : RS (.int (Int.ofNat 0)) false 3 := fun oA o3 => by kernel_rfl
theorem rs_0_4 : RS (.int (Int.ofNat 0)) false 4 := fun oA o3 => by kernel_rfl
theorem rs_0_5 : RS (.int (Int.ofNat 0)) false 5 := fun oA o3 => by kernel_rfl
theorem rs_0_6 : RS (.int (Int.ofNat 0)) false 6 := fun oA o3 => by kernel_rfl
theorem ck_1 : CK (.int (Int.ofNat 1)) true := fun oA o3 => by kernel_rfl
theorem rs_1_0 : RS (.int (Int.ofNat 1)) true 0 := fun oA o3 => by kernel_rfl
theorem rs_1_1 : RS (.int (Int.ofNat 1)) true 1 := fun oA o3 => by kernel_rfl
theorem rs_1_2 : RS (.int (Int.ofNat 1)) true 2 := fun oA o3 => by kernel_rfl
theorem rs_1_3 : RS (.int (Int.ofNat 1)) true 3 := fun oA o3 => by kernel_rfl
theorem rs_1_4 : RS (.int (Int.ofNat 1)) true 4 := fun oA o3 => by kernel_rfl
theorem rs_1_5 : RS (.int (Int.ofNat 1)) true 5 := fun oA o3 => by kernel_rfl
theorem rs_1_6 : RS (.int (Int.ofNat 1)) true 6 := fun oA o3 => by kernel_rfl
theorem ck_2 : CK (.int (Int.ofNat 2)) true := fun oA o3 => by kernel_rfl
theorem rs_2_0 : RS (.int (Int.ofNat 2)) true 0 := fun oA o3 => by kernel_rfl
theorem rs_2_1 : RS (.int (Int.ofNat 2)) true 1 := fun oA o3 => by kernel_rfl
theorem rs_2_2 : RS (.int (Int.ofNat 2)) true 2 := fun oA o3 => by kernel_rfl
theorem rs_2_3 : RS (.int (Int.ofNat 2)) true 3 := fun oA o3 => by kernel_rfl
theorem rs_2_4 : RS (.int (Int.ofNat 2)) true 4 := fun oA o3 => by kernel_rfl
theorem rs_2_5 : RS (.int (Int.ofNat 2)) true 5 := fun oA o3 => by kernel_rfl
theorem rs_2_6 : RS (.int (Int.ofNat 2)) true 6 := fun oA o3 => by kernel_rfl
theorem ck_3 : CK (.int (Int.ofNat 3)) true := fun oA o3 => by kernel_rfl
theorem rs_3_0 : RS (.int (Int.ofNat 3)) true 0 := fun oA o3 => by kernel_rfl
theorem rs_3_1 : RS (.int (Int.ofNat 3)) true 1 := fun oA o3 => by kernel_rfl
theorem rs_3_2 : RS (.int (Int.ofNat 3)) true 2 := fun oA o3 => by kernel_rfl
theorem rs_3_3 : RS (.int (Int.ofNat 3)) true 3 := fun oA o3 => by kernel_rfl
theorem rs_3_4 : RS (.int (Int.ofNat 3)) true 4 := fun oA o3 => by kernel_rfl
theorem rs_3_5 : RS (.int (Int.ofNat 3)) true 5 := fun oA o3 => by kernel_rfl
theorem rs_3_6 : RS (.int (Int.ofNat 3)) true 6 := fun oA o3 => by kernel_rfl
end MP.K59
set_option linter.all false
set_option maxRecDepth 100000
set_option maxHeartbeats 0
namespace MP.K59
theorem ck_4 : CK (.int (Int.ofNat 4)) true := fun oA o3 => by kernel_rfl
theorem rs_4_0 : RS (.int (Int.ofNat 4)) true 0 := fun oA o3 => by kernel_rfl
theorem rs_4_1 : RS (.int (Int.ofNat 4)) true 1 := fun oA o3 => by kernel_rfl
theorem rs_4_2 : RS (.int (Int.ofNat 4)) true 2 := fun oA o3 => by kernel_rfl
theorem rs_4_3 : RS (.int (Int.ofNat 4)) true 3 := fun oA o3 => by kernel_rfl
theorem rs_4_4 : RS (.int (Int.ofNat 4)) true 4 := fun oA o3 => by kernel_rfl
theorem rs_4_5 : RS (.int (Int.ofNat 4)) true 5 := fun oA o3 => by kernel_rfl
theorem rs_4_6 : RS (.int (Int.ofNat 4)) true 6 := fun oA o3 => by kernel_rfl
theorem ck_5 : CK (.int (Int.ofNat 5)) true := fun oA o3 => by kernel_rfl
theorem rs_5_0 : RS (.int (Int.ofNat 5)) true 0 := fun oA o3 => by kernel_rfl
theorem rs_5_1 : RS (.int (Int.ofNat 5)) true 1 := fun oA o3 => by kernel_rfl
theorem rs_5_2 : RS (.int (Int.ofNat 5)) true 2 := fun oA o3 => by kernel_rfl
theorem rs_5_3 : RS (.int (Int.ofNat 5)) true 3 := fun oA o3 => by kernel_rfl
theorem rs_5_4 : RS (.int (Int.ofNat 5)) true 4 := fun oA o3 => by kernel_rfl
theorem rs_5_5 : RS (.int (Int.ofNat 5)) true 5 := fun oA o3 => by kernel_rfl
theorem rs_5_6 : RS (.int (Int.ofNat 5)) true 6 := fun oA o3 => by kernel_rfl
theorem ck_6 : CK (.int (Int.ofNat 6)) true := fun oA o3 => by kernel_rfl
theorem rs_6_0 : RS (.int (Int.ofNat 6)) true 0 := fun oA o3 => by kernel_rfl
theorem rs_6_1 : RS (.int (Int.ofNat 6)) true 1 := fun oA o3 => by kernel_rfl
theorem rs_6_2 : RS (.int (Int.ofNat 6)) true 2 := fun oA o3 => by kernel_rfl
theorem rs_6_3 : RS (.int (Int.ofNat 6)) true 3 := fun oA o3 => by kernel_rfl
theorem rs_6_4 : RS (.int (Int.ofNat 6)) true 4 := fun oA o3 => by kernel_rfl
theorem rs_6_5 : RS (.int (Int.ofNat 6)) true 5 := fun oA o3 => by kernel_rfl
theorem rs_6_6 : RS (.int (Int.ofNat 6)) true 6 := fun oA o3 => by kernel_rfl
theorem ck_7 : CK (.int (Int.ofNat 7)) true := fun oA o3 => by kernel_rfl
theorem rs_7_0 : RS (.int (Int.ofNat 7)) true 0 := fun oA o3 => by kernel_rfl
theorem rs_7_1 : RS (.int (Int.ofNat 7)) true 1 := fun oA o3 => by kernel_rfl
theorem rs_7_2 : RS (.int (Int.ofNat 7)) true 2 := fun oA o3 => by kernel_rfl
theorem rs_7_3 : RS (.int (Int.ofNat 7)) true 3 := fun oA o3 => by kernel_rfl
theorem rs_7_4 : RS (.int (Int.ofNat 7)) true 4 := fun oA o3 => by kernel_rfl
theorem rs_7_5 : RS (.int (Int.ofNat 7)) true 5 := fun oA o3 => by kernel_rfl
theorem rs_7_6 : RS (.int (Int.ofNat 7)) true 6 := fun oA o3 => by kernel_rfl
end MP.K59
set_option linter.all false
set_option maxRecDepth 100000
set_option maxHeartbeats 0
namespace MP.K59
theorem ck_8 : CK (.int (Int.ofNat 8)) true := fun oA o3 => by kernel_rfl
theorem rs_8_0 : RS (.int (Int.ofNat 8)) true 0 := fun oA o3 => by kernel_rfl
theorem rs_8_1 : RS (.int (Int.ofNat 8)) true 1 := fun oA o3 => by kernel_rfl
theorem rs_8_2 : RS (.int (Int.ofNat 8)) true 2 := fun oA o3 => by kernel_rfl
theorem rs_8_3 : RS (.int (Int.ofNat 8)) true 3 := fun oA o3 => by kernel_rfl
theorem rs_8_4 : RS (.int (Int.ofNat 8)) true 4 := fun oA o3 => by kernel_rfl
theorem rs_8_5 : RS (.int (Int.ofNat 8)) true 5 := fun oA o3 => by kernel_rfl
theorem rs_8_6 : RS (.int (Int.ofNat 8)) true 6 := fun oA o3 => by kernel_rfl
theorem ck_9 : CK (.int (Int.ofNat 9)) true := fun oA o3 => by kernel_rfl
theorem rs_9_0 : RS (.int (Int.ofNat 9)) true 0 := fun oA o3 => by kernel_rfl
theorem rs_9_1 : RS (.int (Int.ofNat 9)) true 1 := fun oA o3 => by kernel_rfl
theorem rs_9_2 : RS (.int (Int.ofNat 9)) true 2 := fun oA o3 => by kernel_rfl
theorem rs_9_3 : RS (.int (Int.ofNat 9)) true 3 := fun oA o3 => by kernel_rfl
theorem rs_9_4 : RS (.int (Int.ofNat 9)) true 4 := fun oA o3 => by kernel_rfl
theorem rs_9_5 : RS (.int (Int.ofNat 9)) true 5 := fun oA o3 => by kernel_rfl
theorem rs_9_6 : RS (.int (Int.ofNat 9)) true 6 := fun oA o3 => by kernel_rfl
theorem ck_10 : CK (.int (Int.ofNat 10)) true := fun oA o3 => by kernel_rfl
theorem rs_10_0 : RS (.int (Int.ofNat 10)) true 0 := fun oA o3 => by kernel_rfl
theorem rs_10_1 : RS (.int (Int.ofNat 10)) true 1 := fun oA o3 => by kernel_rfl
theorem rs_10_2 : RS (.int (Int.ofNat 10)) true 2 := fun oA o3 => by kernel_rfl
theorem rs_10_3 : RS (.int (Int.ofNat 10)) true 3 := fun oA o3 => by kernel_rfl
theorem rs_10_4 : RS (.int (Int.ofNat 10)) true 4 := fun oA o3 => by kernel_rfl
theorem rs_10_5 : RS (.int (Int.ofNat 10)) true 5 := fun oA o3 => by kernel_rfl
theorem rs_10_6 : RS (.int (Int.ofNat 10)) true 6 := fun oA o3 => by kernel_rfl
theorem ck_11 : CK (.int (Int.ofNat 11)) true := fun oA o3 => by kernel_rfl
theorem rs_11_0 : RS (.int (Int.ofNat 11)) true 0 := fun oA o3 => by kernel_rfl
theorem rs_11_1 : RS (.int (Int.ofNat 11)) true 1 := fun oA o3 => by kernel_rfl
theorem rs_11_2 : RS (.int (Int.ofNat 11)) true 2 := fun oA o3 => by kernel_rfl
theorem rs_11_3 : RS (.int (Int.ofNat 11)) true 3 := fun oA o3 => by kernel_rfl
theorem rs_11_4 : RS (.int (Int.ofNat 11)) true 4 := fun oA o3 => by kernel_rfl
theorem rs_11_5 : RS (.int (Int.ofNat 11)) true 5 := fun oA o3 => by kernel_rfl
theorem rs_11_6 : RS (.int (Int.ofNat 11)) true 6 := fun oA o3 => by kernel_rfl
end MP.K59
set_option linter.all false
set_option maxRecDepth 100000
set_option maxHeartbeats 0
namespace MP.K59
theorem ck_12 : CK (.int (Int.ofNat 12)) true := fun oA o3 => by kernel_rfl
theorem rs_12_0 : RS (.int (Int.ofNat 12)) true 0 := fun oA o3 => by kernel_rfl
theorem rs_12_1 : RS (.int (Int.ofNat 12)) true 1 := fun oA o3 => by kernel_rfl
theorem rs_12_2 : RS (.int (Int.ofNat 12)) true 2 := fun oA o3 => by kernel_rfl
theorem rs_12_3 : RS (.int (Int.ofNat 12)) true 3 := fun oA o3 => by kernel_rfl
theorem rs_12_4 : RS (.int (Int.ofNat 12)) true 4 := fun oA o3 => by kernel_rfl
theorem rs_12_5 : RS (.int (Int.ofNat 12)) true 5 := fun oA o3 => by kernel_rfl
theorem rs_12_6 : RS (.int (Int.ofNat 12)) true 6 := fun oA o3 => by kernel_rfl
theorem ck_13 : CK (.int (Int.ofNat 13)) true := fun oA o3 => by kernel_rfl
theorem rs_13_0 : RS (.int (Int.ofNat 13)) true 0 := fun oA o3 => by kernel_rfl
theorem rs_13_1 : RS (.int (Int.ofNat 13)) true 1 := fun oA o3 => by kernel_rfl
theorem rs_13_2 : RS (.int (Int.ofNat 13)) true 2 := fun oA o3 => by kernel_rfl
theorem rs_13_3 : RS (.int (Int.ofNat 13)) true 3 := fun oA o3 => by kernel_rfl
theorem rs_13_4 : RS (.int (Int.ofNat 13)) true 4 := fun oA o3 => by kernel_rfl
theorem rs_13_5 : RS (.int (Int.ofNat 13)) true 5 := fun oA o3 => by kernel_rfl
theorem rs_13_6 : RS (.int (Int.ofNat 13)) true 6 := fun oA o3 => by kernel_rfl
theorem ck_14 : CK (.int (Int.ofNat 14)) true := fun oA o3 => by kernel_rfl
theorem rs_14_0 : RS (.int (Int.ofNat 14)) true 0 := fun oA o3 => by kernel_rfl
theorem rs_14_1 : RS (.int (Int.ofNat 14)) true 1 := fun oA o3 => by kernel_rfl
theorem rs_14_2 : RS (.int (Int.ofNat 14)) true 2 := fun oA o3 => by kernel_rfl
theorem rs_14_3 : RS (.int (Int.ofNat 14)) true 3 := fun oA o3 => by kernel_rfl
theorem rs_14_4 : RS (.int (Int.ofNat 14)) true 4 := fun oA o3 => by kernel_rfl
theorem rs_14_5 : RS (.int (Int.ofNat 14)) true 5 := fun oA o3 => by kernel_rfl
theorem rs_14_6 : RS (.int (Int.ofNat 14)) true 6 := fun oA o3 => by kernel_rfl
theorem ck_15 : CK (.int (Int.ofNat 15)) true := fun oA o3 => by kernel_rfl
theorem rs_15_0 : RS (.int (Int.ofNat 15)) true 0 := fun oA o3 => by kernel_rfl
theorem rs_15_1 : RS (.int (Int.ofNat 15)) true 1 := fun oA o3 => by kernel_rfl
theorem rs_15_2 : RS (.int (Int.ofNat 15)) true 2 := fun oA o3 => by kernel_rfl
theorem rs_15_3 : RS (.int (Int.ofNat 15)) true 3 := fun oA o3 => by kernel_rfl
theorem rs_15_4 : RS (.int (Int.ofNat 15)) true 4 := fun oA o3 => by kernel_rfl
theorem rs_15_5 : RS (.int (Int.ofNat 15)) true 5 := fun oA o3 => by kernel_rfl
theorem rs_15_6 : RS (.int (Int.ofNat 15)) true 6 := fun oA o3 => by kernel_rfl
end MP.K59
set_option linter.all false
set_option maxRecDepth 100000
set_option maxHeartbeats 0
namespace MP.K59
theorem ck_16 : CK (.int (Int.ofNat 16)) true := fun oA o3 => by kernel_rfl
theorem rs_16_0 : RS (.int (Int.ofNat 16)) true 0 := fun oA o3 => by kernel_rfl
theorem rs_16_1 : RS (.int (Int.ofNat 16)) true 1 := fun oA o3 => by kernel_rfl
theorem rs_16_2 : RS (.int (Int.ofNat 16)) true 2 := fun oA o3 => by kernel_rfl
theorem rs_16_3 : RS (.int (Int.ofNat 16)) true 3 := fun oA o3 => by kernel_rfl
theorem rs_16_4 : RS (.int (Int.ofNat 16)) true 4 := fun oA o3 => by kernel_rfl
theorem rs_16_5 : RS (.int (Int.ofNat 16)) true 5 := fun oA o3 => by kernel_rfl
theorem rs_16_6 : RS (.int (Int.ofNat 16)) true 6 := fun oA o3 => by kernel_rfl
theorem ck_17 : CK (.int (Int.ofNat 17)) true := fun oA o3 => by kernel_rfl
theorem rs_17_0 : RS (.int (Int.ofNat 17)) true 0 := fun oA o3 => by kernel_rfl
theorem rs_17_1 : RS (.int (Int.ofNat 17)) true 1 := fun oA o3 => by kernel_rfl
theorem rs_17_2 : RS (.int (Int.ofNat 17)) true 2 := fun oA o3 => by kernel_rfl
theorem rs_17_3 : RS (.int (Int.ofNat 17)) true 3 := fun oA o3 => by kernel_rfl
theorem rs_17_4 : RS (.int (Int.ofNat 17)) true 4 := fun oA o3 => by kernel_rfl
theorem rs_17_5 : RS (.int (Int.ofNat 17)) true 5 := fun oA o3 => by kernel_rfl
theorem rs_17_6 : RS (.int (Int.ofNat 17)) true 6 := fun oA o3 => by kernel_rfl
theorem ck_18 : CK (.int (Int.ofNat 18)) true := fun oA o3 => by kernel_rfl
theorem rs_18_0 : RS (.int (Int.ofNat 18)) true 0 := fun oA o3 => by kernel_rfl
theorem rs_18_1 : RS (.int (Int.ofNat 18)) true 1 := fun oA o3 => by kernel_rfl
theorem rs_18_2 : RS (.int (Int.ofNat 18)) true 2 := fun oA o3 => by kernel_rfl
theorem rs_18_3 : RS (.int (Int.ofNat 18)) true 3 := fun oA o3 => by kernel_rfl
theorem rs_18_4 : RS (.int (Int.ofNat 18)) true 4 := fun oA o3 => by kernel_rfl
theorem rs_18_5 : RS (.int (Int.ofNat 18)) true 5 := fun oA o3 => by kernel_rfl
theorem rs_18_6 : RS (.int (Int.ofNat 18)) true 6 := fun oA o3 => by kernel_rfl
theorem ck_19 : CK (.int (Int.ofNat 19)) true := fun oA o3 => by kernel_rfl
theorem rs_19_0 : RS (.int (Int.ofNat 19)) true 0 := fun oA o3 => by kernel_rfl
theorem rs_19_1 : RS (.int (Int.ofNat 19)) true 1 := fun oA o3 => by kernel_rfl
theorem rs_19_2 : RS (.int (Int.ofNat 19)) true 2 := fun oA o3 => by kernel_rfl
theorem rs_19_3 : RS (.int (Int.ofNat 19)) true 3 := fun oA o3 => by kernel_rfl
theorem rs_19_4 : RS (.int (Int.ofNat 19)) true 4 := fun oA o3 => by kernel_rfl
theorem rs_19_5 : RS (.int (Int.ofNat 19)) true 5 := fun oA o3 => by kernel_rfl
theorem rs_19_6 : RS (.int (Int.ofNat 19)) true 6 := fun oA o3 => by kernel_rfl
end MP.K59
set_option linter.all false
set_option maxRecDepth 100000
set_option maxHeartbeats 0
namespace MP.K59
theorem ck_20 : CK (.int (Int.ofNat 20)) true := fun oA o3 => by kernel_rfl
theorem rs_20_0 : RS (.int (Int.ofNat 20)) true 0 := fun oA o3 => by kernel_rfl
theorem rs_20_1 : RS (.int (Int.ofNat 20)) true 1 := fun oA o3 => by kernel_rfl
theorem rs_20_2 : RS (.int (Int.ofNat 20)) true 2 := fun oA o3 => by kernel_rfl
theorem rs_20_3 : RS (.int (Int.ofNat 20)) true 3 := fun oA o3 => by kernel_rfl
theorem rs_20_4 : RS (.int (Int.ofNat 20)) true 4 := fun oA o3 => by kernel_rfl
theorem rs_20_5 : RS (.int (Int.ofNat 20)) true 5 := fun oA o3 => by kernel_rfl
theorem rs_20_6 : RS (.int (Int.ofNat 20)) true 6 := fun oA o3 => by kernel_rfl
theorem ck_21 : CK (.int (Int.ofNat 21)) false := fun oA o3 => by kernel_rfl
theorem rs_21_0 : RS (.int (Int.ofNat 21)) false 0 := fun oA o3 => by kernel_rfl
theorem rs_21_1 : RS (.int (Int.ofNat 21)) false 1 := fun oA o3 => by kernel_rfl
theorem rs_21_2 : RS (.int (Int.ofNat 21)) false 2 := fun oA o3 => by kernel_rfl
theorem rs_21_3 : RS (.int (Int.ofNat 21)) false 3 := fun oA o3 => by kernel_rfl
theorem rs_21_4 : RS (.int (Int.ofNat 21)) false 4 := fun oA o3 => by kernel_rfl
theorem rs_21_5 : RS (.int (Int.ofNat 21)) false 5 := fun oA o3 => by kernel_rfl
theorem rs_21_6 : RS (.int (Int.ofNat 21)) false 6 := fun oA o3 => by kernel_rfl
theorem ck_22 : CK (.int (-(Int.ofNat 1))) false := fun oA o3 => by kernel_rfl
theorem rs_22_0 : RS (.int (-(Int.ofNat 1))) false 0 := fun oA o3 => by kernel_rfl
theorem rs_22_1 : RS (.int (-(Int.ofNat 1))) false 1 := fun oA o3 => by kernel_rfl
theorem rs_22_2 : RS (.int (-(Int.ofNat 1))) false 2 := fun oA o3 => by kernel_rfl
theorem rs_22_3 : RS (.int (-(Int.ofNat 1))) false 3 := fun oA o3 => by kernel_rfl
theorem rs_22_4 : RS (.int (-(Int.ofNat 1))) false 4 := fun oA o3 => by kernel_rfl
theorem rs_22_5 : RS (.int (-(Int.ofNat 1))) false 5 := fun oA o3 => by kernel_rfl
theorem rs_22_6 : RS (.int (-(Int.ofNat 1))) false 6 := fun oA o3 => by kernel_rfl
theorem ck_23 : CK (.non) false := fun oA o3 => by kernel_rfl
theorem rs_23_0 : RS (.non) false 0 := fun oA o3 => by kernel_rfl
theorem rs_23_1 : RS (.non) false 1 := fun oA o3 => by kernel_rfl
theorem rs_23_2 : RS (.non) false 2 := fun oA o3 => by kernel_rfl
theorem rs_23_3 : RS (.non) false 3 := fun oA o3 => by kernel_rfl
theorem rs_23_4 : RS (.non) false 4 := fun oA o3 => by kernel_rfl
theorem rs_23_5 : RS (.non) false 5 := fun oA o3 => by kernel_rfl
theorem rs_23_6 : RS (.non) false 6 := fun oA o3 => by kernel_rfl
end MP.K59
set_option linter.all false
set_option maxRecDepth 100000
set_option maxHeartbeats 0
namespace MP.K59
theorem ck_24 : CK (.bl true) false := fun oA o3 => by kernel_rfl
theorem rs_24_0 : RS (.bl true) false 0 := fun oA o3 => by kernel_rfl
theorem rs_24_1 : RS (.bl true) false 1 := fun oA o3 => by kernel_rfl
theorem rs_24_2 : RS (.bl true) false 2 := fun oA o3 => by kernel_rfl
theorem rs_24_3 : RS (.bl true) false 3 := fun oA o3 => by kernel_rfl
theorem rs_24_4 : RS (.bl true) false 4 := fun oA o3 => by kernel_rfl
theorem rs_24_5 : RS (.bl true) false 5 := fun oA o3 => by kernel_rfl
theorem rs_24_6 : RS (.bl true) false 6 := fun oA o3 => by kernel_rfl
theorem ck_25 : CK (.str [53]) false := fun oA o3 => by kernel_rfl
theorem rs_25_0 : RS (.str [53]) false 0 := fun oA o3 => by kernel_rfl
theorem rs_25_1 : RS (.str [53]) false 1 := fun oA o3 => by kernel_rfl
theorem rs_25_2 : RS (.str [53]) false 2 := fun oA o3 => by kernel_rfl
theorem rs_25_3 : RS (.str [53]) false 3 := fun oA o3 => by kernel_rfl
theorem rs_25_4 : RS (.str [53]) false 4 := fun oA o3 => by kernel_rfl
theorem rs_25_5 : RS (.str [53]) false 5 := fun oA o3 => by kernel_rfl
theorem rs_25_6 : RS (.str [53]) false 6 := fun oA o3 => by kernel_rfl
theorem ck_26 : CK (.ref 4) false := fun oA o3 => by kernel_rfl
theorem rs_26_0 : RS (.ref 4) false 0 := fun oA o3 => by kernel_rfl
theorem rs_26_1 : RS (.ref 4) false 1 := fun oA o3 => by kernel_rfl
theorem rs_26_2 : RS (.ref 4) false 2 := fun oA o3 => by kernel_rfl
theorem rs_26_3 : RS (.ref 4) false 3 := fun oA o3 => by kernel_rfl
theorem rs_26_4 : RS (.ref 4) false 4 := fun oA o3 => by kernel_rfl
theorem rs_26_5 : RS (.ref 4) false 5 := fun oA o3 => by kernel_rfl
theorem rs_26_6 : RS (.ref 4) false 6 := fun oA o3 => by kernel_rfl
theorem ck_27 : CK (.int (Int.ofNat 10 ^ (Int.ofNat 30).toNat)) false := fun oA o3 => by kernel_rfl
theorem rs_27_0 : RS (.int (Int.ofNat 10 ^ (Int.ofNat 30).toNat)) false 0 := fun oA o3 => by kernel_rfl
theorem rs_27_1 : RS (.int (Int.ofNat 10 ^ (Int.ofNat 30).toNat)) false 1 := fun oA o3 => by kernel_rfl
theorem rs_27_2 : RS (.int (Int.ofNat 10 ^ (Int.ofNat 30).toNat)) false 2 := fun oA o3 => by kernel_rfl
theorem rs_27_3 : RS (.int (Int.ofNat 10 ^ (Int.ofNat 30).toNat)) false 3 := fun oA o3 => by kernel_rfl
theorem rs_27_4 : RS (.int (Int.ofNat 10 ^ (Int.ofNat 30).toNat)) false 4 := fun oA o3 => by kernel_rfl
theorem rs_27_5 : RS (.int (Int.ofNat 10 ^ (Int.ofNat 30).toNat)) false 5 := fun oA o3 => by kernel_rfl
theorem rs_27_6 : RS (.int (Int.ofNat 10 ^ (Int.ofNat 30).toNat)) false 6 := fun oA o3 => by kernel_rfl
end MP.K59
set_option linter.all false
set_option maxRecDepth 100000
set_option maxHeartbeats 0
namespace MP.K59
theorem seven {P : Nat → Prop} (h0 : P 0) (h1 : P 1) (h2 : P 2) (h3 : P 3) (h4 : P 4) (h5 : P 5) (h6 : P 6) : ∀ m : Nat, m < 7 → P m := fun m hm => by
  match m, hm with
  | 0, _ => exact h0
  | 1, _ => exact h1
  | 2, _ => exact h2
  | 3, _ => exact h3
  | 4, _ => exact h4
  | 5, _ => exact h5
  | 6, _ => exact h6
  | n + 7, h => omega
theorem allR : AllR := by
  unfold AllR V28
  exact List.forall_mem_cons.mpr ⟨⟨false, ck_0, seven rs_0_0 rs_0_1 rs_0_2 rs_0_3 rs_0_4 rs_0_5 rs_0_6⟩, List.forall_mem_cons.mpr ⟨⟨true, ck_1, seven rs_1_0 rs_1_1 rs_1_2 rs_1_3 rs_1_4 rs_1_5 rs_1_6⟩, List.forall_mem_cons.mpr ⟨⟨true, ck_2, seven rs_2_0 rs_2_1 rs_2_2 rs_2_3 rs_2_4 rs_2_5 rs_2_6⟩, List.forall_mem_cons.mpr ⟨⟨true, ck_3, seven rs_3_0 rs_3_1 rs_3_2 rs_3_3 rs_3_4 rs_3_5 rs_3_6⟩, List.forall_mem_cons.mpr ⟨⟨true, ck_4, seven rs_4_0 rs_4_1 rs_4_2 rs_4_3 rs_4_4 rs_4_5 rs_4_6⟩, List.forall_mem_cons.mpr ⟨⟨true, ck_5, seven rs_5_0 rs_5_1 rs_5_2 rs_5_3 rs_5_4 rs_5_5 rs_5_6⟩, List.forall_mem_cons.mpr ⟨⟨true, ck_6, seven rs_6_0 rs_6_1 rs_6_2 rs_6_3 rs_6_4 rs_6_5 rs_6_6⟩, List.forall_mem_cons.mpr ⟨⟨true, ck_7, seven rs_7_0 rs_7_1 rs_7_2 rs_7_3 rs_7_4 rs_7_5 rs_7_6⟩, List.forall_mem_cons.mpr ⟨⟨true, ck_8, seven rs_8_0 rs_8_1 rs_8_2 rs_8_3 rs_8_4 rs_8_5 rs_8_6⟩, List.forall_mem_cons.mpr ⟨⟨true, ck_9, seven rs_9_0 rs_9_1 rs_9_2 rs_9_3 rs_9_4 rs_9_5 rs_9_6⟩, List.forall_mem_cons.mpr ⟨⟨true, ck_10, seven rs_10_0 rs_10_1 rs_10_2 rs_10_3 rs_10_4 rs_10_5 rs_10_6⟩, List.forall_mem_cons.mpr ⟨⟨true, ck_11, seven rs_11_0 rs_11_1 rs_11_2 rs_11_3 rs_11_4 rs_11_5 rs_11_6⟩, List.forall_mem_cons.mpr ⟨⟨true, ck_12, seven rs_12_0 rs_12_1 rs_12_2 rs_12_3 rs_12_4 rs_12_5 rs_12_6⟩, List.forall_mem_cons.mpr ⟨⟨true, ck_13, seven rs_13_0 rs_13_1 rs_13_2 rs_13_3 rs_13_4 rs_13_5 rs_13_6⟩, List.forall_mem_cons.mpr ⟨⟨true, ck_14, seven rs_14_0 rs_14_1 rs_14_2 rs_14_3 rs_14_4 rs_14_5 rs_14_6⟩, List.forall_mem_cons.mpr ⟨⟨true, ck_15, seven rs_15_0 rs_15_1 rs_15_2 rs_15_3 rs_15_4 rs_15_5 rs_15_6⟩, List.forall_mem_cons.mpr ⟨⟨true, ck_16, seven rs_16_0 rs_16_1 rs_16_2 rs_16_3 rs_16_4 rs_16_5 rs_16_6⟩, List.forall_mem_cons.mpr ⟨⟨true, ck_17, seven rs_17_0 rs_17_1 rs_17_2 rs_17_3 rs_17_4 rs_17_5 rs_17_6⟩, List.forall_mem_cons.mpr ⟨⟨true, ck_18, seven rs_18_0 rs_18_1 rs_18_2 rs_18_3 rs_18_4 rs_18_5 rs_18_6⟩, List.forall_mem_cons.mpr ⟨⟨true, ck_19, seven rs_19_0 rs_19_1 rs_19_2 rs_19_3 rs_19_4 rs_19_5 rs_19_6⟩, List.forall_mem_cons.mpr ⟨⟨true, ck_20, seven rs_20_0 rs_20_1 rs_20_2 rs_20_3 rs_20_4 rs_20_5 rs_20_6⟩, List.forall_mem_cons.mpr ⟨⟨false, ck_21, seven rs_21_0 rs_21_1 rs_21_2 rs_21_3 rs_21_4 rs_21_5 rs_21_6⟩, List.forall_mem_cons.mpr ⟨⟨false, ck_22, seven rs_22_0 rs_22_1 rs_22_2 rs_22_3 rs_22_4 rs_22_5 rs_22_6⟩, List.forall_mem_cons.mpr ⟨⟨false, ck_23, seven rs_23_0 rs_23_1 rs_23_2 rs_23_3 rs_23_4 rs_23_5 rs_23_6⟩, List.forall_mem_cons.mpr ⟨⟨false, ck_24, seven rs_24_0 rs_24_1 rs_24_2 rs_24_3 rs_24_4 rs_24_5 rs_24_6⟩, List.forall_mem_cons.mpr ⟨⟨false, ck_25, seven rs_25_0 rs_25_1 rs_25_2 rs_25_3 rs_25_4 rs_25_5 rs_25_6⟩, List.forall_mem_cons.mpr ⟨⟨false, ck_26, seven rs_26_0 rs_26_1 rs_26_2 rs_26_3 rs_26_4 rs_26_5 rs_26_6⟩, List.forall_mem_cons.mpr ⟨⟨false, ck_27, seven rs_27_0 rs_27_1 rs_27_2 rs_27_3 rs_27_4 rs_27_5 rs_27_6⟩, fun v h => absurd h List.not_mem_nil⟩⟩⟩⟩⟩⟩⟩⟩⟩⟩⟩⟩⟩⟩⟩⟩⟩⟩⟩⟩⟩⟩⟩⟩⟩⟩⟩⟩
end MP.K59
set_option linter.all false
set_option maxRecDepth 100000
set_option maxHeartbeats 8000000
/-! The law. -/
namespace MP.K59
open PySem PySem.Spec PyProof.Rows L2 NdefX
theorem hiD : anGood D.an = true := by decide +kernel
/-! ### the draws -/
theorem c60L (h : Hv) (m : Int) : callF TL OL 0 60 [.ref 3, .int m] h = runB D.T (OrN D 5 8) 60 (3971 + 29) 5 pullB [.ref 3, .int m] h := by kernel_rfl
theorem c60o (h : Hv) (m : Int) : callF (D.T.at (D.T.lv 61)) (OrN D 5 8) 0 60 [.ref 3, .int m] h = runB D.T (OrN D 5 7) 60 (3971 + 29) 5 pullB [.ref 3, .int m] h := by kernel_rfl
theorem c60n (h : Hv) (m : Int) : callF (D.T.at (D.T.lv 67)) (OrN D 5 8) 0 60 [.ref 3, .int m] h = runB D.T (OrN D 5 7) 60 (3971 + 29) 5 pullB [.ref 3, .int m] h := by kernel_rfl
theorem c60p (h : Hv) (m : Int) : callF (D.T.at (D.T.lv 61)) (OrN D 5 7) 0 60 [.ref 3, .int m] h = runB D.T (OrN D 5 6) 60 (3971 + 29) 5 pullB [.ref 3, .int m] h := by kernel_rfl
theorem c61L (h : Hv) (a : Nat) : callF TL OL 0 61 [.ref 3, .ref a] h = runB D.T (OrN D 5 8) 61 (3994 + 6) 2 (ofB 60) [.ref 3, .ref a] h := by kernel_rfl
theorem c61n (h : Hv) (y : List Nat) : callF (D.T.at (D.T.lv 67)) (OrN D 5 8) 0 61 [.ref 3, .str y] h = runB D.T (OrN D 5 7) 61 (3994 + 6) 2 (ofB 60) [.ref 3, .str y] h := by kernel_rfl
theorem c67L (h : Hv) : callF TL OL 0 67 [.ref 3, .int (Int.ofNat 22)] h = runB D.T (OrN D 5 8) 67 (3980 + 20) 6 (namesB 60 61) [.ref 3, .int (Int.ofNat 22)] h := by kernel_rfl
section
variable {A : List Int}
theorem pulL : Pul TL OL 60 A 2 3 := fun h m H h1 h2 => by
  rw [c60L]
  exact pull_has H h1 h2
theorem pulo : Pul (D.T.at (D.T.lv 61)) (OrN D 5 8) 60 A 2 3 := fun h m H h1 h2 => by
  rw [c60o]
  exact pull_has H h1 h2
theorem drw : Drw (D.T.at (D.T.lv 67)) (OrN D 5 8) 60 61 A 2 3 := ⟨fun h m H h1 h2 => by
  rw [c60n]
  exact pull_has H h1 h2, fun h y H ne hy => by
  rw [c61n]
  exact of_str (f := 61) (fun h m H h1 h2 => by
    rw [c60p]
    exact pull_has H h1 h2) H ne hy⟩
end
theorem evAs_step {ev : Ex → Hv → Rs Va} {x : Ex} {r : List (Bool × Ex)} {h h1 h2 : Hv} {v : Va} {ys : List Va} (k1 : ev x h = .ok v h1) (k2 : evAs ev r h1 = .ok ys h2) : evAs ev ((false, x) :: r) h = .ok (v :: ys) h2 := by
  show ((ev x h).bind fun v h1 => (evAs ev r h1).bind fun ys h2 => .ok (v :: ys) h2) = _
  rw [k1, bind_ok', k2, bind_ok']
def items0 : List (Bool × Ex) := [(false, Ex.cst (Va.int (Int.ofNat 0))),
            (false, Ex.cst (Va.int (Int.ofNat 1))),
            (false, Ex.cst (Va.int (Int.ofNat 20))),
            (false, Ex.cst (Va.int (Int.ofNat 21))),
            (false, Ex.neg (Ex.cst (Va.int (Int.ofNat 1)))),
            (false, Ex.cst Va.non),
            (false, Ex.cst (Va.bl true)),
            (false, Ex.cst (Va.str [53])),
            (false, Ex.lst [(false, Ex.cst (Va.int (Int.ofNat 5)))]),
            (false, Ex.bin (BO.pow) (Ex.cst (Va.int (Int.ofNat 10))) (Ex.cst (Va.int (Int.ofNat 30)))),
            (false, Ex.call 60 [Ex.var 1, Ex.cst (Va.int (Int.ofNat 22))]),
            (false, Ex.call 60 [Ex.var 1, Ex.cst (Va.int (Int.ofNat 8))])]
def S0 : St := .asg (.var 13) (.call 61 [.var 1, .lst items0])
theorem S0_eq : lbody = S0 :: (ck12 ++ (.par [.var 14, .var 12, .var 4] [yardX, .call 67 [.var 1, .cst (.int (Int.ofNat 22))], .call 60 [.var 1, .cst (.int (Int.ofNat 7))]] :: rest)) := by rfl
def sI (i : Int) : Fr := [none, some (.ref 3), some (.int i), none, none, none, none, none, none, none, none, none, none, none, none]
theorem c5_ok {T : Tb} {O : Orc} {n : Nat} {s : Fr} {h : Hv} : (evs T O (n + 2)).e s (.lst [(false, .cst (.int (Int.ofNat 5)))]) h = .ok (.ref h.n) (h.new (.lst [.int (Int.ofNat 5)])) := rfl
theorem ng_ok {T : Tb} {O : Orc} {n : Nat} {s : Fr} {h : Hv} : (evs T O (n + 2)).e s (.neg (.cst (.int (Int.ofNat 1)))) h = .ok (.int (-(Int.ofNat 1))) h := rfl
theorem pw_ok {T : Tb} {O : Orc} {n : Nat} {s : Fr} {h : Hv} : (evs T O (n + 2)).e s (.bin .pow (.cst (.int (Int.ofNat 10))) (.cst (.int (Int.ofNat 30)))) h = .ok (.int (Int.ofNat 10 ^ (Int.ofNat 30).toNat)) h := rfl
def vals12 (r1 r2 : Int) : List Va := [.int (Int.ofNat 0), .int (Int.ofNat 1), .int (Int.ofNat 20), .int (Int.ofNat 21), .int (-(Int.ofNat 1)), .non, .bl true, .str [53], .ref 4, .int (Int.ofNat 10 ^ (Int.ofNat 30).toNat), .int r1, .int r2]
theorem ka_ok {T : Tb} {O : Orc} {n : Nat} {s : Fr} {h hA h2 h3 : Hv} {r1 r2 : Int} (kl : (evs T O (n + 2)).e s (.lst [(false, .cst (.int (Int.ofNat 5)))]) h = .ok (.ref 4) hA) (k2 : (evs T O (n + 2)).e s (.call 60 [.var 1, .cst (.int (Int.ofNat 22))]) hA = .ok (.int r1) h2) (k3 : (evs T O (n + 2)).e s (.call 60 [.var 1, .cst (.int (Int.ofNat 8))]) h2 = .ok (.int r2) h3) :
    evAs ((evs T O (n + 2)).e s) items0 h = .ok (vals12 r1 r2) h3 :=
  evAs_step ev_cst (evAs_step ev_cst (evAs_step ev_cst (evAs_step ev_cst (evAs_step ng_ok (evAs_step ev_cst (evAs_step ev_cst (evAs_step ev_cst (evAs_step kl (evAs_step pw_ok (evAs_step k2 (evAs_step k3 rfl)))))))))))
theorem kx_ok {T : Tb} {O : Orc} {n : Nat} {s : Fr} {h h3 : Hv} {es : List (Bool × Ex)} {xs : List Va} (ka : evAs ((evs T O n).e s) es h = .ok xs h3) (hl : xs.length ≤ 1000) : (evs T O (n + 1)).e s (.lst es) h = .ok (.ref h3.n) (h3.new (.lst xs)) := by
  rw [ev_lst, ka, bind_ok', Nat.ble_eq_true_of_le (show xs.length ≤ Bnd by unfold Bnd; omega), gd_true]
  rfl
theorem call2_ev {T : Tb} {O : Orc} {n f : Nat} {s : Fr} {h h1 h2 : Hv} {a b : Ex} {v w x : Va} (k1 : (evs T O n).e s a h = .ok v h) (k2 : (evs T O n).e s b h = .ok w h1) (k3 : callF T O 0 f [v, w] h1 = .ok x h2) : (evs T O (n + 1)).e s (.call f [a, b]) h = .ok x h2 := by
  rw [ev_call, two_ev k1 k2, bind_ok', k3]
theorem var_ev {T : Tb} {O : Orc} {n i : Nat} {s : Fr} {h : Hv} {v : Va} (hb : s[i]? = some (some v)) : (evs T O (n + 1)).e s (.var i) h = .ok v h := by
  rw [ev_var]
  unfold getV
  rw [hb]
theorem s0_gen {T : Tb} {O : Orc} {n : Nat} {A : List Int} {h : Hv} {s : Fr} (P : Pul T O 60 A 2 3) (F : ∀ h (a : Nat) (xs : List Va), Has A 2 3 h → h.get a = some (.lst xs) → a ≠ 3 → xs ≠ [] → xs.length < 1000 → ∃ h' v, callF T O 0 61 [.ref 3, .ref a] h = .ok v h' ∧ Has A 2 3 h' ∧ Mv 3 h h' ∧ v ∈ xs) (H : Has A 2 3 h) (hn : h.n = 4) (hs : s[1]? = some (some (.ref 3))) :
    ∃ v h' r1 r2, (evs T O (n + 6)).s s S0 h = .nx (s.set 13 (some v)) h' ∧ Has A 2 3 h' ∧ 5 ≤ h'.n ∧ h'.get 2 = h.get 2 ∧ h'.get 4 = some (.lst [.int (Int.ofNat 5)]) ∧ v ∈ vals12 r1 r2 ∧ 0 ≤ r1 ∧ r1 < 22 ∧ 0 ≤ r2 ∧ r2 < 8 := by
  have n1 : (h.new (.lst [.int (Int.ofNat 5)])).n = 5 := by show h.n + 1 = 5; omega
  have g1 : ∀ a, a < 4 → (h.new (.lst [.int (Int.ofNat 5)])).get a = h.get a := fun a ha => by rw [Hv.get_new, if_neg (by omega)]
  have H1 : Has A 2 3 (h.new (.lst [.int (Int.ofNat 5)])) := H.keep (Nat.le_succ _) fun a ha => g1 a (by omega)
  obtain ⟨h2, r1, k2, H2, m2, p1, p2⟩ := pul_ev (n := n + 1) P 1 (e := .cst (.int (Int.ofNat 22))) hs ev_cst H1 (by decide) (by decide)
  obtain ⟨h3, r2, k3, H3, m3, q1, q2⟩ := pul_ev (n := n + 1) P 1 (e := .cst (.int (Int.ofNat 8))) hs ev_cst H2 (by decide) (by decide)
  have kl : (evs T O (n + 3)).e s (.lst [(false, .cst (.int (Int.ofNat 5)))]) h = .ok (.ref 4) (h.new (.lst [.int (Int.ofNat 5)])) := by
    rw [show (4 : Nat) = h.n from hn.symm]
    exact c5_ok
  have ka := ka_ok (n := n + 1) kl k2 k3
  have n3 : h3.n = 5 := by rw [m3.n, m2.n, n1]
  have kx := kx_ok ka (show 12 ≤ 1000 by decide)
  rw [n3] at kx
  have H4 : Has A 2 3 (h3.new (.lst (vals12 r1 r2))) := H3.keep (Nat.le_succ _) fun a ha => by rw [Hv.get_new, if_neg (by omega)]
  obtain ⟨h5, v, k5, H5, m5, hv⟩ := F _ 5 (vals12 r1 r2) H4 (by rw [Hv.get_new, if_pos n3.symm]) (by decide) (fun z => by cases z) (show 12 < 1000 by decide)
  refine ⟨v, h5, r1, r2, ?_, H5, ?_, ?_, ?_, hv, p1, p2, q1, q2⟩
  · exact asg_ev (call2_ev (var_ev hs) kx k5)
  · rw [m5.n]
    show 5 ≤ h3.n + 1
    omega
  · rw [m5.get 2 (by decide), Hv.get_new, if_neg (by omega), m3.get 2 (by decide), m2.get 2 (by decide), g1 2 (by decide)]
  · rw [m5.get 4 (by decide), Hv.get_new, if_neg (by omega), m3.get 4 (by decide), m2.get 4 (by decide), Hv.get_new, if_pos hn.symm]
theorem s0_ok {A : List Int} {h : Hv} (H : Has A 2 3 h) (hn : h.n = 4) (i : Int) : ∃ v h', (evs TL OL fuelN).s (sI i) S0 h = .nx ((sI i).set 13 (some v)) h' ∧ Has A 2 3 h' ∧ 5 ≤ h'.n ∧ h'.get 2 = h.get 2 ∧ h'.get 4 = some (.lst [.int (Int.ofNat 5)]) ∧ v ∈ V28 := by
  obtain ⟨v, h', r1, r2, k1, k2, k3, k4, k5, hv, p1, p2, q1, q2⟩ := s0_gen (T := TL) (O := OL) (n := 3994) pulL (fun h a xs H g ne n0 hl => by
    rw [c61L]
    exact of_lst (T := D.T) (f := 61) pulo H g ne n0 hl) H hn (s := sI i) rfl
  refine ⟨v, h', k1, k2, k3, k4, k5, ?_⟩
  obtain ⟨a1, rfl⟩ := Int.eq_ofNat_of_zero_le p1
  obtain ⟨a2, rfl⟩ := Int.eq_ofNat_of_zero_le q1
  have b1 : a1 < 22 := by omega
  have b2 : a2 < 22 := by omega
  have small : ∀ k, k < 22 → Va.int (Int.ofNat k) ∈ V28 := by decide
  unfold vals12 at hv
  simp only [List.mem_cons, List.not_mem_nil, or_false] at hv
  rcases hv with rfl | rfl | rfl | rfl | rfl | rfl | rfl | rfl | rfl | rfl | rfl | rfl
  · exact small 0 (by decide)
  · exact small 1 (by decide)
  · exact small 20 (by decide)
  · exact small 21 (by decide)
  · exact List.mem_of_getElem? (i := 22) rfl
  · exact List.mem_of_getElem? (i := 23) rfl
  · exact List.mem_of_getElem? (i := 24) rfl
  · exact List.mem_of_getElem? (i := 25) rfl
  · exact List.mem_of_getElem? (i := 26) rfl
  · exact List.mem_of_getElem? (i := 27) rfl
  · exact small a1 b1
  · exact small a2 b2
end MP.K59
set_option linter.all false
set_option maxRecDepth 100000
set_option maxHeartbeats 8000000
/-! The law, part two. -/
namespace MP.K59
open PySem PySem.Spec PyProof.Rows L2 NdefX
def oC (A : List Int) : Ob := .lst (A.map Va.int)
def oB (i : Nat) (g z t : Int) : Ob := .lst [.ref 2, .int i, .int g, .int z, .int t]
def GBag (A : List Int) (o : Ob) : Prop := ∃ (i : Nat) (g z t : Int), o = oB i g z t ∧ i ≤ A.length ∧ 0 ≤ g ∧ 0 ≤ z ∧ z < 2147483629
theorem has_of {A : List Int} {o : Ob} {h : Hv} (k : GBag A o) (h2 : h.get 2 = some (oC A)) (h3 : h.get 3 = some o) (hn : 4 ≤ h.n) : Has A 2 3 h := by
  obtain ⟨i, g, z, t, rfl, k⟩ := k
  exact ⟨⟨i, g, z, t, h3, k⟩, rd_of_lst h2, by decide, by omega, by omega⟩
theorem has_o {A : List Int} {h : Hv} (H : Has A 2 3 h) : ∃ o, h.get 3 = some o ∧ GBag A o := by
  obtain ⟨i, g, z, t, e, k⟩ := H.bag
  exact ⟨_, e, i, g, z, t, rfl, k⟩
theorem clo_c (n : Nat) (A : List Int) : cloO n (oC A) = true := by
  show (A.map Va.int).all (cloV n) = true
  rw [List.all_eq_true]
  intro v hv
  obtain ⟨i, _, rfl⟩ := List.mem_map.mp hv
  rfl
theorem clo_b {n : Nat} {A : List Int} {o : Ob} (k : GBag A o) (hn : 3 ≤ n) : cloO n o = true := by
  obtain ⟨i, g, z, t, rfl, k⟩ := k
  show (Nat.blt 2 n && (true && (true && (true && (true && true))))) = true
  rw [show Nat.blt 2 n = true from Nat.ble_eq_true_of_le hn]
  rfl
def o5 : Ob := .lst [.int (Int.ofNat 5)]
theorem ofO_get' {os : List (Option Ob)} {a : Nat} {o : Ob} (e : os[a]? = some (some o)) : (ofO os).get a = some o := by
  rw [ofO_get, e]
  rfl
theorem clos4 {A : List Int} {o : Ob} (k : GBag A o) : clos [none, none, some (oC A), some o] = true := by
  show (true && (true && (cloO 4 (oC A) && (cloO 4 o && true)))) = true
  rw [clo_c, clo_b k (by decide)]
  rfl
theorem clos5 {A : List Int} {o : Ob} (k : GBag A o) : clos [none, none, some (oC A), some o, some o5] = true := by
  show (true && (true && (cloO 5 (oC A) && (cloO 5 o && (true && true))))) = true
  rw [clo_c, clo_b k (by decide)]
  rfl
/-! ### yard, names, many -/
theorem par3_ev {T : Tb} {O : Orc} {n i j k : Nat} {s : Fr} {h h1 h2 h3 : Hv} {e1 e2 e3 : Ex} {v1 v2 v3 : Va} (k1 : (evs T O n).e s e1 h = .ok v1 h1) (k2 : (evs T O n).e s e2 h1 = .ok v2 h2) (k3 : (evs T O n).e s e3 h2 = .ok v3 h3) :
    (evs T O (n + 1)).s s (.par [.var i, .var j, .var k] [e1, e2, e3]) h = .nx (((s.set i (some v1)).set j (some v2)).set k (some v3)) h3 := by
  rw [es_par, evPs_cons, k1, bind_ok', two_ev k2 k3, bind_ok', st_ok]
  rfl
def S3 : St := .par [.var 14, .var 12, .var 4] [yardX, .call 67 [.var 1, .cst (.int (Int.ofNat 22))], .call 60 [.var 1, .cst (.int (Int.ofNat 7))]]
theorem epj_ok {ks : List Nat} {r : Rs Va} {v : Va} {ol : List (Option Ob)} {n : Nat} (e : epj ks r = some (v, ol, n)) : ∃ h, r = .ok v h ∧ (ks.map fun a => h.get a) = ol ∧ h.n = n := by
  cases r with
  | ok w h =>
    have e := Option.some.inj e
    obtain ⟨e1, e2⟩ := Prod.mk.inj e
    obtain ⟨e2, e3⟩ := Prod.mk.inj e2
    exact ⟨h, by rw [e1], e2, e3⟩
  | ex c f h => cases e
  | no => cases e
theorem map_cong {h h' : Hv} : ∀ (ks : List Nat), (∀ a ∈ ks, h'.get a = h.get a) → ks.map (fun a => h'.get a) = ks.map (fun a => h.get a)
  | [], _ => rfl
  | a :: r, e => by
    rw [List.map_cons, List.map_cons, e a List.mem_cons_self, map_cong r fun b hb => e b (List.mem_cons_of_mem _ hb)]
def nm22 (st : List Nat) (a f : Nat) : Ob := .lst ((List.range 22).map fun k => .str (nmK st a f k))
theorem s3_ok {A : List Int} {o : Ob} (k : GBag A o) (g : Bool) (v : Va) : ∃ (m : Nat) (h' : Hv) (st : List Nat) (a f : Nat) (o' : Ob), m < 7 ∧ (evs TL OL fuelN).s (frG g v) S3 (h5 (oC A) o) = .nx ((((frG g v).set 14 (some (.ref 26))).set 12 (some (.ref 32))).set 4 (some (.int (Int.ofNat m)))) h' ∧ h'.n = 33 ∧ h'.get 2 = some (oC A) ∧ h'.get 3 = some o' ∧ GBag A o' ∧
    ([4, 5, 6, 7, 8, 9, 10, 11, 12, 13, 14, 15, 16, 17, 18, 19, 20, 21, 22, 23, 24, 25, 26, 27, 28, 29, 30].map fun a => h'.get a) = some o5 :: ysY ∧ h'.get 32 = some (nm22 st a f) ∧ st.length ≤ 7 ∧ (∀ c ∈ st, c ∈ smallL) := by
  obtain ⟨hY, e1, g1, n1⟩ := epj_ok (yard_ok g v (oC A) o)
  have g1 : hY.get 2 :: hY.get 3 :: ([4, 5, 6, 7, 8, 9, 10, 11, 12, 13, 14, 15, 16, 17, 18, 19, 20, 21, 22, 23, 24, 25, 26, 27, 28, 29, 30].map fun a => hY.get a) = some (oC A) :: some o :: (some o5 :: ysY) := g1
  obtain ⟨g2, g3⟩ := List.cons.inj g1
  obtain ⟨g3, g4⟩ := List.cons.inj g3
  have H1 : Has A 2 3 hY := has_of k g2 g3 (by omega)
  obtain ⟨h2, st, a, f, e2, H2, n2, g5, s2, l1, l2, l3, l4⟩ := names_ok (T := D.T) (O := OrN D 5 8) (n := 3980) (f := 67) drw H1 (cnt := 22) (by decide)
  obtain ⟨h3, r, e3, H3, m3, p1, p2⟩ := pul_ev (T := TL) (O := OL) (n := 3997) pulL 1 (s := frG g v) (e := .cst (.int (Int.ofNat 7))) rfl ev_cst H2 (by decide) (by decide)
  obtain ⟨m, rfl⟩ := Int.eq_ofNat_of_zero_le p1
  obtain ⟨o', g6, k'⟩ := has_o H3
  have e2' : (evs TL OL 3999).e (frG g v) (.call 67 [.var 1, .cst (.int (Int.ofNat 22))]) hY = .ok (.ref (hY.n + 1)) h2 := call2_ev (n := 3998) (var_ev (n := 3997) rfl) (ev_cst (n := 3997)) ((c67L hY).trans e2)
  have e4 := par3_ev (i := 14) (j := 12) (k := 4) e1 e2' e3
  rw [n1] at e4 g5
  have p2 : ((m : Nat) : Int) < Int.ofNat 7 := p2
  refine ⟨m, h3, st, a, f, o', by simp only [Int.ofNat_eq_natCast] at p2; omega, e4, by rw [m3.n, n2, n1], ?_, g6, k', ?_, ?_, l1, l2⟩
  · rw [m3.get 2 (by decide), s2 2 (by omega) (by decide), g2]
  · rw [← g4]
    refine map_cong _ fun b hb => ?_
    have hb2 : b ≠ 3 ∧ b < 31 := by
      simp only [List.mem_cons, List.not_mem_nil, or_false] at hb
      omega
    rw [m3.get b hb2.1, s2 b (by omega) hb2.1]
  · rw [m3.get 32 (by decide), g5]
    rfl
/-! ### the whole body of a turn -/
def tN (st : List Nat) (a f : Nat) (hl : st.length ≤ 7) (hs : ∀ c ∈ st, c ∈ smallL) (tbs : List (Addr × Str)) : Toks := tkN 22 (nmK st a f) (fun i j hi hj e => nmK_inj (by omega) (by omega) e) (fun i _ => nmK_ok hl hs) tbs
theorem getR (os : List (Option Ob)) (h : Hv) (hg : ∀ i o, os[i]? = some (some o) → h.get i = some o) : ∀ i o', os[i]? = some (some o') → ∃ o, h.get i = some o ∧ o = o' := fun i o e => ⟨o, hg i o e, rfl⟩
theorem SameW.of {hi : anGood D.an = true} {K : PySem.W.Frag} {t t' : Toks} (e : t'.tbs = t.tbs) : SameW (D.M hi K t) (D.M hi K t') := ⟨rfl, rfl, rfl, e⟩
theorem osR_eq (A : List Int) (o : Ob) : osR (oC A) o = [none, none, some (oC A), some o, some o5] ++ (ysY ++ [none, some (.lst nmz)]) := rfl
theorem osR_len (A : List Int) (o : Ob) : (osR (oC A) o).length = 33 := by
  rw [osR_eq, List.length_append, List.length_append, ys_len]
  rfl
theorem ys_at {i : Nat} : ∀ {l : List (Option Ob)} {ks : List Nat} {h : Hv} {b : Nat}, (ks.map fun a => h.get a) = l → ks = (List.range l.length).map (· + b) → ∀ o, l[i]? = some o → h.get (i + b) = o := fun {l ks h b} e e2 o hi => by
  rw [e2] at e
  have hl : i < l.length := (List.getElem?_eq_some_iff.mp hi).1
  rw [← e, List.map_map, List.getElem?_map, List.getElem?_range hl] at hi
  exact Option.some.inj hi
/-- behind yard, names, many: told with drawn texts -/
theorem s3_st {A : List Int} {M M' : Wd} (w : SameW M M') {o' : Ob} (k : GBag A o') {r : List Addr} {h' : Hv} {σ : L2.St} {H : Hp} {st : List Nat} {a f m : Nat} {g : Bool} {v : Va} (hv : cloV 33 v = true) (hs : RF M r ((((frG g v).set 14 (some (.ref 26))).set 12 (some (.ref 32))).set 4 (some (.int (Int.ofNat m)))) σ) (he : Emb M r h' H)
    (n1 : h'.n = 33) (g2 : h'.get 2 = some (oC A)) (g3 : h'.get 3 = some o') (g4 : ([4, 5, 6, 7, 8, 9, 10, 11, 12, 13, 14, 15, 16, 17, 18, 19, 20, 21, 22, 23, 24, 25, 26, 27, 28, 29, 30].map fun a => h'.get a) = some o5 :: ysY) (g5 : h'.get 32 = some (nm22 st a f)) (hN : M'.nt = 22) (hk : ∀ k, M'.tk k = ⟨(nmK st a f k).toArray⟩) :
    StO M' (osR (oC A) o') (frR g v (Int.ofNat m) 26 32) σ H := by
  refine ⟨_, RF.sub (n := (osR (oC A) o').length) w hs rfl fun i x e => ⟨?_, ?_⟩, he.sub w _ (by rw [osR_len, n1]; exact Nat.le_refl _) fun i x e => ?_⟩
  · match i, e with
    | 1, e => exact e
    | 3, e => exact e
    | 4, e => exact e
    | 12, e => exact e
    | 13, e => exact e
    | 14, e => exact e
  · rw [osR_len]
    match i, e with
    | 1, e => cases e; rfl
    | 3, e => cases e; rfl
    | 4, e => cases e; rfl
    | 12, e => cases e; rfl
    | 13, e => cases e; exact hv
    | 14, e => cases e; rfl
  · rw [osR_len]
    rw [osR_eq] at e
    by_cases c : i < 5
    · rw [List.getElem?_append_left (by exact c)] at e
      match i, e with
      | 2, e =>
        cases e
        exact ⟨_, g2, fun u z => z.cut w (clo_c _ _)⟩
      | 3, e =>
        cases e
        exact ⟨_, g3, fun u z => z.cut w (clo_b k (by decide))⟩
      | 4, e =>
        cases e
        exact ⟨_, (List.cons.inj g4).1, fun u z => z.cut w rfl⟩
    · rw [List.getElem?_append_right (by exact Nat.le_of_not_lt c)] at e
      have e : (ysY ++ [none, some (.lst nmz)])[i - 5]? = some (some x) := e
      by_cases c2 : i - 5 < 26
      · rw [List.getElem?_append_left (by rw [ys_len]; exact c2)] at e
        refine ⟨x, ?_, fun u z => z.cut w ?_⟩
        · have := ys_at (i := i - 5) (b := 5) (List.cons.inj g4).2 (by rw [ys_len]; rfl) _ e
          rw [show i - 5 + 5 = i by omega] at this
          exact this
        · exact List.all_eq_true.mp ys_clo _ (List.mem_of_getElem? e)
      · rw [List.getElem?_append_right (by rw [ys_len]; omega), ys_len] at e
        have hi : i - 5 - 26 = 1 := by
          match i - 5 - 26, e with
          | 1, _ => rfl
        rw [hi] at e
        cases e
        obtain rfl : i = 32 := by omega
        exact ⟨_, g5, fun u z => names_re hN hk z⟩
end MP.K59
set_option linter.all false
set_option maxRecDepth 100000
set_option maxHeartbeats 8000000
/-! The law, part three: a turn; the whole. -/
namespace MP.K59
open PySem PySem.Spec PyProof.Rows L2 NdefX
abbrev SL : CS := ⟨nmL, dfL.scope, gtL, D.an, true⟩
theorem V28_clo : ∀ v ∈ V28, cloV 5 v = true ∧ cloV 33 v = true := by
  intro v hv
  unfold V28 at hv
  simp only [List.mem_cons, List.not_mem_nil, or_false] at hv
  rcases hv with rfl | rfl | rfl | rfl | rfl | rfl | rfl | rfl | rfl | rfl | rfl | rfl | rfl | rfl | rfl | rfl | rfl | rfl | rfl | rfl | rfl | rfl | rfl | rfl | rfl | rfl | rfl | rfl
  all_goals exact ⟨rfl, rfl⟩
theorem mapO_two {α β : Type} {f : α → Option β} {a b : α} {x y : β} (h1 : f a = some x) (h2 : f b = some y) : mapO f [a, b] = some [x, y] := by
  simp only [mapO, h1, h2]
def sA : St := lbody.getD 1 .pass
def sBt : St := lbody.getD 2 .pass
theorem ck12_eq : ck12 = [sA, sBt] := rfl
theorem clF_V {v : Va} (h : cloV 5 v = true) : cloF 5 (frV v) = true := by
  show (true && (cloV 5 (.ref 3) && (true && (true && (true && (true && (true && (true && (true && (true && (true && (true && (true && (cloV 5 v && (true && true))))))))))))))) = true
  rw [h]
  rfl
theorem clF_G {v : Va} {g : Bool} (h : cloV 5 v = true) : cloF 5 (frG g v) = true := by
  show (true && (cloV 5 (.ref 3) && (true && (cloV 5 (.bl g) && (true && (true && (true && (true && (true && (true && (true && (true && (true && (cloV 5 v && (true && true))))))))))))))) = true
  rw [h]
  rfl
section
variable {hi : anGood D.an = true} {K : PySem.W.Frag} {X : Cx} {W : WX} {tbs : List (Addr × Str)}
theorem turn_wp (all : AllR) (L : LC D hi K 10 OL GoodT tbs nmL dfL.scope gtL X W) {b : List Stmt} (hb : cSs 40 39 SL b = some lbody) {A : List Int} {o : Ob} (k : GBag A o) {i : Int} {r : List Addr} {σ : L2.St} {H : Hp} {D' : Ends} (hs : RF (D.M hi K (t0 tbs)) r (sI i) σ)
    (he : Emb (D.M hi K (t0 tbs)) r (ofO [none, none, some (oC A), some o]) H) (fin : ∀ σ H o', GBag A o' → StO (D.M hi K (t0 tbs)) [none, none, some (oC A), some o'] frE σ H → D'.nx σ H) : Wp X b D' σ H := by
  have ok0 := L.ok (t0 tbs) rfl t0_good
  rw [S0_eq, ck12_eq] at hb
  obtain ⟨st0, b1, rfl, c0, hb⟩ := cSs_inv (m := 38) hb
  have hb : cSs 40 (38 + 1) SL b1 = some (sA :: sBt :: S3 :: rest) := hb
  obtain ⟨st1, b2, rfl, c1, hb⟩ := cSs_inv hb
  obtain ⟨st2, b3, rfl, c2, hb⟩ := cSs_inv hb
  obtain ⟨st3, b4, rfl, c3, hb⟩ := cSs_inv hb
  have H0 : Has A 2 3 (ofO [none, none, some (oC A), some o]) := has_of k (ofO_get' rfl) (ofO_get' rfl) (by rw [ofO_n]; exact Nat.le_refl 4)
  obtain ⟨v, h1, e1, H1, n1, g2, g4, hv⟩ := s0_ok H0 (by rw [ofO_n]; rfl) i
  obtain ⟨cv5, cv33⟩ := V28_clo v hv
  refine Wp.cons (Wp1.run ok0 L.hsc L.hp c0 fuelN hs he e1 fun r1 σ1 K1 gr1 hs1 => ?_)
  obtain ⟨o1, g3, k1⟩ := has_o H1
  rw [ofO_get' (o := oC A) rfl] at g2
  obtain ⟨r1', hs1', he1'⟩ : StO (D.M hi K (t0 tbs)) [none, none, some (oC A), some o1, some o5] (frV v) σ1 K1 := StO.run (SameW.of rfl) gr1 hs1 n1 (by
    show [h1.get 2, h1.get 3, h1.get 4] = [some (oC A), some o1, some o5]
    rw [g2, g3, g4]
    rfl) (clos5 k1) rfl rfl (clF_V cv5)
  obtain ⟨g, ck, rs⟩ := all v hv
  obtain ⟨s2, h2, e2, f2, p2, l2, n2⟩ := kpj_nx (ck (oC A) o1)
  refine Wp.pre ok0 L.hsc L.hp fuelN (pre := [st1, st2]) (xs := ck12) (c := 40) (m := 38) (mapO_two c1 c2) hs1' he1' e2 fun r2 σ2 K2 gr2 hs2 => ?_
  obtain ⟨r2', hs2', he2'⟩ : StO (D.M hi K (t0 tbs)) [none, none, some (oC A), some o1, some o5] (frG g v) σ2 K2 := StO.run (SameW.of rfl) gr2 hs2 n2 p2 (clos5 k1) l2.symm f2 (clF_G cv5)
  obtain ⟨m, h3, st, a, f, o', hm, e3, n3, q2, q3, k3, q4, q5, ls, lc⟩ := s3_ok k1 g v
  refine Wp.cons (Wp1.run ok0 L.hsc L.hp c3 fuelN hs2' he2' e3 fun r3 σ3 K3 gr3 hs3 => ?_)
  obtain ⟨r3', hs3', he3'⟩ := s3_st (M := D.M hi K (t0 tbs)) (M' := D.M hi K (tN st a f ls lc tbs)) (SameW.of (t := t0 tbs) (t' := tN st a f ls lc tbs) rfl) k3 cv33 hs3 gr3.emb n3 q2 q3 q4 q5 rfl fun _ => rfl
  obtain ⟨s4, h4, e4, f4, p4, l4, n4⟩ := kpj_nx (rs m hm (oC A) o')
  exact Wp.run (L.ok (tN st a f ls lc tbs) rfl tkN_good) L.hsc L.hp hb fuelN hs3' he3' e4 fun r4 σ4 K4 gr4 hs4 => fin σ4 K4 o' k3 (StO.run (SameW.of (t := tN st a f ls lc tbs) (t' := t0 tbs) rfl) gr4 hs4 n4 p4 (clos4 k3) l4.symm f4 rfl)
theorem s1a (ns : List Int) : kpj 4 [1] [2, 3] ((evs TL OL fuelN).s (frame0 nmL.length [.ref 0]) (bdL.headD .pass) (hZ (.frz (.lst (ns.map Va.int))))) = some ([some (some (.ref 3))], [some (.lst (cutO (ns.map Va.int) none (some (Int.ofNat 63)))), some (oB 0 0 5607 0)], 15, true) := by kernel_rfl
theorem s1b (ns : List Int) : kpj 4 [1] [2, 3] ((evs TL OL fuelN).s (frame0 nmL.length [.ref 0]) (bdL.headD .pass) (hZ (.lst (ns.map Va.int)))) = some ([some (some (.ref 3))], [some (.lst (cutO (ns.map Va.int) none (some (Int.ofNat 63)))), some (oB 0 0 5607 0)], 15, true) := by kernel_rfl
theorem cut_map (ns : List Int) : cutO (ns.map Va.int) none (some (Int.ofNat 63)) = (cutO ns none (some (Int.ofNat 63))).map Va.int := by
  unfold cutO
  rw [List.map_take, List.map_drop, List.length_map]
theorem bdL_eq : bdL = [bdL.headD .pass, .for (.one 2) .rng [.cst (.int (Int.ofNat 4))] lbody, (bdL.drop 2).headD .pass] := rfl
theorem rpj_rt {r : MP.RS} (e : rpj r = true) : ∃ h, r = .rt (.bl true) h := by
  cases r with
  | rt v h =>
    cases v with
    | bl b =>
      have e : b = true := e
      exact ⟨h, by rw [e]⟩
    | _ => cases e
  | nx s h => cases e
  | bk s h => cases e
  | ct s h => cases e
  | ex c f s h => cases e
  | no => cases e
theorem law_wp (all : AllR) (L : LC D hi K 10 OL GoodT tbs nmL dfL.scope gtL X W) {a : Addr} {ns : List Int} {H : Hp} (hem : ∃ o0 : Ob, (o0 = .frz (.lst (ns.map Va.int)) ∨ o0 = .lst (ns.map Va.int)) ∧ ∀ t : Toks, t.tbs = tbs → Emb (D.M hi K t) [a] (hZ o0) H)
    {Q : VK} (hq : ∀ H', Q (.bl true) H') : Wp X dfL.body { nx := fun _ H' => Q .non H', rt := Q } (L2.start nmL [.ref a]) H := by
  have ok0 := L.ok (t0 tbs) rfl t0_good
  have hb : cSs 40 (39 + 1) SL dfL.body = some bdL := ccL
  rw [bdL_eq] at hb
  obtain ⟨x0, b0, eb, c0, hb⟩ := cSs_inv hb
  obtain ⟨x1, b1, rfl, c1, hb⟩ := cSs_inv hb
  obtain ⟨x2, b2, rfl, c2, hb⟩ := cSs_inv hb
  rw [eb]
  obtain ⟨o0, ho, hem⟩ := hem
  have em := hem (t0 tbs) rfl
  have fs : RF (D.M hi K (t0 tbs)) [a] (frame0 nmL.length [.ref 0]) (L2.start nmL [.ref a]) := start_ok (.cons ⟨a, rfl, rfl⟩ .nil) (show 1 ≤ 15 by decide)
  have one : kpj 4 [1] [2, 3] ((evs TL OL fuelN).s (frame0 nmL.length [.ref 0]) (bdL.headD .pass) (hZ o0)) = some ([some (some (.ref 3))], [some (oC (cutO ns none (some (Int.ofNat 63)))), some (oB 0 0 5607 0)], 15, true) := by
    unfold oC
    rw [← cut_map]
    rcases ho with rfl | rfl
    · exact s1a ns
    · exact s1b ns
  obtain ⟨s1, h1, e1, f1, p1, l1, n1⟩ := kpj_nx one
  have k0 : GBag (cutO ns none (some (Int.ofNat 63))) (oB 0 0 5607 0) := ⟨0, 0, 5607, 0, rfl, Nat.zero_le _, Int.le_refl _, by decide, by decide⟩
  refine Wp.cons (Wp1.run ok0 L.hsc L.hp c0 fuelN fs em e1 fun r1 σ1 K1 gr1 hs1 => ?_)
  obtain ⟨r1', hs1', he1'⟩ : StO (D.M hi K (t0 tbs)) [none, none, some (oC (cutO ns none (some (Int.ofNat 63)))), some (oB 0 0 5607 0)] frE σ1 K1 := StO.run (SameW.of rfl) gr1 hs1 n1 p1 (clos4 k0) l1.symm f1 rfl
  obtain ⟨tg, iter, b, pos, rfl, hI, hT, hbb⟩ := for_inv c1
  refine Wp.cons (Wp1.forR ok0 L.hp hI hT 5 hs1' he1' (one_ev (ev_cst (n := 4))) (show wkOf .rng [.int (Int.ofNat 4)] _ = some (.rng 0 4) from rfl) (fun _ s h => s = frE ∧ ∃ o, GBag (cutO ns none (some (Int.ofNat 63))) o ∧ h = ofO [none, none, some (oC (cutO ns none (some (Int.ofNat 63)))), some o]) ⟨rfl, _, k0, rfl⟩ ?_ ?_)
  · rintro i s h r σ H D' _ ⟨rfl, o, ko, rfl⟩ hs he fin _
    exact turn_wp all L hbb ko (i := 0 + i) hs he fun σ H o' ko' ⟨r', q1, q2⟩ => fin r' _ _ σ H ⟨rfl, o', ko', rfl⟩ q1 q2
  · rintro r s h σ H ⟨rfl, o, ko, rfl⟩ hs he
    obtain ⟨h', e'⟩ := rpj_rt (fin_ok (oC (cutO ns none (some (Int.ofNat 63)))) o)
    exact Wp.cons (Wp1.rt ok0 L.hsc L.hp c2 fuelN hs he e' fun r' y H' g z => by
      obtain rfl : y = V.bl true := z
      exact hq H')
end
end MP.K59
set_option linter.all false
open PySem PySem.W PySem.Calls PyProof.Rows
set_option maxRecDepth 100000 in
theorem MP.K59.hnm5 : ∀ x, MP.K59.D.fi.get 5 = some x → x.body = MP.nameB ∧ x.slots = 2 := fun x e => by
  have k : MP.K59.D.fi.get 5 = some MP.K59.fi5 := by kernel_rfl
  rw [k] at e
  cases e
  exact ⟨rfl, rfl⟩
set_option maxRecDepth 100000 in
set_option maxHeartbeats 0 in
theorem PySem.Challenge.cw_coinroads_k59_limits_of_yards_holds : PySem.Challenge.rw_coinroads_k59_limits_of_yards.Holds := by
  w_on; o_law
  refine HandSHeadRun.head_any (r := OpenLaw.row PySem.Challenge.rw_coinroads_k59_limits_of_yards) (q := MP.K59.qv) (H := MP.K59.hk) (ob := MP.K59.ob) (M := 100000) (loose := MP.K59.names) (d := HandSHeadRun.topDef (OpenLaw.row PySem.Challenge.rw_coinroads_k59_limits_of_yards).prog 48) (kwd := []) MP.K59.ob_eq
    (by kernel_rfl) (fun s => by kernel_rfl) MP.K59.run (by kernel_rfl) (by kernel_rfl) (by kernel_rfl) (by rfl) (by first | assumption | decide +kernel) (by decide +kernel) ⟨rfl, rfl, rfl, rfl, rfl, by decide +kernel⟩ ?hw ?hc
  case hw => w_witness2
  case hc =>
    exact MP.law_endL (l := PySem.Challenge.rw_coinroads_k59_limits_of_yards) (D := MP.K59.D) (n := 63) (lv := 10) (x := "law") (px := "_law_script") (O := MP.K59.OL) (good := MP.GoodT) (i := 37) (f0 := 68) (df := MP.K59.dfL) (gt := MP.K59.gt0) (N := MP.K59.nmL) (y := MP.K59.wyD) (wp := MP.K59.wpD) 5
      MP.K59.hiD MP.K59.xbs rfl (by decide +kernel) rfl (by decide) (by kernel_rfl) ⟨rfl, by decide, by decide⟩ (by decide) (by kernel_rfl) (by kernel_rfl) (by kernel_rfl) rfl (by kernel_rfl) (List.mem_of_getElem? (i := 0) rfl) (by kernel_rfl) MP.K59.scL MP.K59.wyok
      rfl rfl (fun _ _ _ _ _ _ us hl => match us, hl with | [_], _ => rfl)
      (fun w K mg base h t KX G cc hg f hf => MP.all_dokN MP.K59.hiD KX G cc MP.K59.xbs rfl (by decide +kernel) MP.K59.dd hg (by kernel_rfl) MP.K59.hnm5 9 f (Nat.le_of_lt_succ hf) (by decide))
      (fun K cc => cc.codeHd (List.mem_singleton.mpr rfl))
      (fun K X W L a ns H _ hem Q hq => MP.K59.law_wp MP.K59.allR L hem hq)
