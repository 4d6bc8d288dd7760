import PyProof.Rows.All
import Wide.All
import OpenK.AllK
import Wide.FinOn
import HandS.ForMost
import HandS.List
import HandS.IsInst
import HandS.Flow
import HandS.Style
import HandS.Deep
import HandS.TupAny
import HandS.TupMul
import HandS.Gcd
import HandS.Conv
import HandS.RaiseMore
import HandS.CallLocal
import HandS.Small
import HandS.Codes
import HandS.Ends
import PyProof.ReprLen
import PyProof.Rows.StrDigits
import PySem.Challenge.RW_allendless_k59_whole_readers
set_option Elab.async false
set_option linter.all false
set_option maxRecDepth 100000
set_option maxHeartbeats 4000000
/-! Mi: rules that the layer lacks. -/
namespace MiL
open PySem PySem.Spec PyProof.Rows L2
/-- xs.extend(t), t any tuple -/
theorem ext_tup (l : Addr) (items : Array Value) (n : Nat) (b : Addr) (items2 : Array Value) (n2 : Nat) (dd : Option Addr) (sl : Array (Option Value)) (hs0 : ¬(!items.isEmpty && Builtin.List.listTooLong (items.size + items2.size)) = true) (hs1 : items.size ≤ sizeLine)
    (hs2 : items.size + items2.size ≤ sizeLine + 1) :
    Meets (Builtin.«list.extend» ⟨[.ref l, .ref b], []⟩) (fun _ R s => s.heap.get? l = some { cls := .type "list", dict := none, data := .seq items n, slots := #[] } ∧ s.heap.get? b = some ⟨.type "tuple", dd, .seq items2 n2, sl⟩ ∧
      R (.ok (.ret Value.none)) { s with heap := s.heap.update l (Obj.mapSeq fun x => x ++ items2), toks := s.toks }) :=
  .of_wp fun prog w A R s h => by
    obtain ⟨hp, g, d, tk, os⟩ := s
    obtain ⟨hl, hb, h⟩ := h
    have f2 := AutoSeq1.sub_tuple_tuple
    have f3 := AutoSeq1.sub_list_list
    have f4 := AutoSeq1.sub_tuple_list
    have f5 := AutoSeq1.sub_list_tuple
    have hz' : (items ++ items2).size ≤ sizeLine + 1 := by rw [Array.size_append]; exact hs2
    wp_walk using (wpAny_updateSeq hl rfl (hz := hs1) (_hz' := hz')), AutoSeq1.wpAny_loadPart' hl, AutoSeq1.wpAny_loadPart' hb
    exact ⟨_, rfl, h⟩
def rExtT : V → List V → Hp → VK → Prop := fun x vs H Q => ∃ l b xs zs, x = .ref l ∧ vs = [.ref b] ∧ H l = some (.lst xs) ∧ H b = some (.tup zs) ∧ xs.length + zs.length ≤ sizeLine ∧ Q .non (upd H l (.lst (xs ++ zs)))
section
variable {X : Cx}
theorem mt_extT : MtM X "list.extend" rExtT := by
  intro pins s σ H x vs v us Q I rx rv h
  obtain ⟨l, b, xs, zs, rfl, rfl, hH, hB, hz, q⟩ := h
  cases rx
  obtain ⟨u, rfl, ru⟩ := rv.one
  cases ru
  obtain ⟨z, its, n, r, hl, e⟩ := I.lstM hH
  obtain ⟨_, its2, r2, o, h1, h2, n2, h3⟩ := (show ObjOk X.prog X.w H s.heap b (.tup zs) from I.hok b _ hB)
  obtain ⟨oc, od, dt, sl⟩ := o
  simp only at h2 h3
  subst h2 h3
  have hl2 := r2.length
  have hsz : its.toArray.size + its2.toArray.size ≤ sizeLine := by rw [List.size_toArray, List.size_toArray]; omega
  have hlong : ¬ (!its.toArray.isEmpty && Builtin.List.listTooLong (its.toArray.size + its2.toArray.size)) = true := by
    rw [notLongL hsz, Bool.and_false]
    exact Bool.false_ne_true
  refine call_meets F.slot_list_extend ⟨_, e, rfl⟩ F.entry_list_extend (F.args_list_extend_2 _ _) (ext_tup l its.toArray n b its2.toArray n2 od sl hlong (by rw [List.size_toArray]; omega) (by omega)) ⟨e, h1, ?_⟩
  refine ⟨.non, _, I.lset (its' := its ++ its2) hH e (by simp) (r.append r2) ?_, rfl, q⟩
  rw [List.length_append]
  omega
end
end MiL
/-! Mi: a small language with pure values and a small heap of things that change; its evaluator. -/
namespace Mi
open PySem L2

/-- values: pure data, and refs to what changes -/
inductive D where
  | non | bl (b : Bool) | int (i : Int) | str (x : Str)
  | tup (l : List D) | lst (l : List D)
  | dK (ks : List Key) (vs : List D) | dT (ks : List (List Key)) (vs : List D)
  | ref (i : Nat) | fn (i : Nat)
  | scr (l : List D)
  deriving Inhabited
abbrev MH := List D

mutual
/-- every ref in it is below n -/
def D.okR (n : Nat) : D → Bool
  | .tup l => D.okRs n l
  | .lst l => D.okRs n l
  | .dK _ vs => D.okRs n vs
  | .dT _ vs => D.okRs n vs
  | .scr l => D.okRs n l
  | .ref i => decide (i < n)
  | .non => true
  | .bl _ => true
  | .int _ => true
  | .str _ => true
  | .fn _ => true
def D.okRs (n : Nat) : List D → Bool
  | [] => true
  | d :: r => D.okR n d && D.okRs n r
end

mutual
/-- as data -/
def D.toP : D → Option PyData
  | .non => some .none
  | .bl b => some (.bool b)
  | .int i => some (.int i)
  | .str x => some (.str x)
  | .tup l => (D.toPs l).map .tuple
  | .lst l => (D.toPs l).map .list
  | .dK _ _ => none
  | .dT _ _ => none
  | .ref _ => none
  | .fn _ => none
  | .scr _ => none
def D.toPs : List D → Option (List PyData)
  | [] => some []
  | d :: r => (D.toP d).bind fun p => (D.toPs r).map fun q => p :: q
end

/-- what changes: lists and dicts -/
def isObj : D → Bool
  | .lst _ => true
  | .dK _ _ => true
  | .dT _ _ => true
  | _ => false
/-- what stands at a ref; a ref to what was let go stays one -/
def deref (h : MH) : D → D
  | .ref i => match h[i]? with
    | some d => if isObj d then d else .ref i
    | none => .ref i
  | d => d

inductive Err where
  | stuck
  | exc (c : Nat) (a : List D) (h : MH)
abbrev R (α : Type) := Except Err α
def bnd {α β : Type} (r : R (α × MH)) (f : α → MH → R β) : R β :=
  match r with
  | .ok (a, h) => f a h
  | .error e => .error e
def opt {α β : Type} (o : Option α) (f : α → R β) : R β :=
  match o with
  | some a => f a
  | none => .error .stuck
def grd {β : Type} (b : Bool) (r : R β) : R β := if b then r else .error .stuck
theorem bnd_ok {α β : Type} (a : α) (h : MH) (f : α → MH → R β) : bnd (.ok (a, h)) f = f a h := rfl
theorem opt_some {α β : Type} (a : α) (f : α → R β) : opt (some a) f = f a := rfl
theorem grd_true {β : Type} (r : R β) : grd true r = r := rfl

/-- a new thing: as a value, or laid into the heap -/
def alc (m : Bool) (d : D) (h : MH) : R (D × MH) := if m && isObj d then .ok (.ref h.length, h ++ [d]) else .ok (d, h)

/-! ### operations on values -/
def szL : Nat := 16777216
inductive BOp where | add | sub | mul | fdiv | mod | pow
  deriving DecidableEq
inductive COp where | eq | ne | lt | le | gt | ge | is | isnot | inn | notin
  deriving DecidableEq
def mulOk (i j : Int) : Bool := (decide (-(2 ^ 64) < i) && decide (i < 2 ^ 64)) || (decide (-(2 ^ 64) < j) && decide (j < 2 ^ 64)) || (decide (Builtin.Int.intBits i ≤ 2 ^ 20) && decide (Builtin.Int.intBits j ≤ 2 ^ 20))
def divOk (i j : Int) : Bool := decide (0 < j) && !Builtin.divisionGoesByPylong i j
def powOk (i j : Int) : Bool := decide (0 ≤ j) && decide (j ≤ 1000000) && decide (i.natAbs < 2 ^ 64)
def binD : BOp → D → D → Option D
  | .add, .int i, .int j => some (.int (i + j))
  | .add, .str x, .str y => if x.length + y.length ≤ szL then some (.str (x ++ y)) else none
  | .add, .tup x, .tup y => if x.length + y.length ≤ szL then some (.tup (x ++ y)) else none
  | .add, .lst x, .lst y => if x.length + y.length ≤ szL then some (.lst (x ++ y)) else none
  | .sub, .int i, .int j => some (.int (i - j))
  | .mul, .int i, .int j => if mulOk i j then some (.int (i * j)) else none
  | .mul, .lst l, .int k => if decide (-(2 ^ 63) ≤ k) && decide (k < 2 ^ 63) && decide (l.length * k.toNat ≤ szL) then some (.lst (List.replicate k.toNat l).flatten) else none
  | .mul, .tup l, .int k => if decide (2 ≤ k) && decide (k ≤ 1000) && decide (l.length ≤ 1000) && !l.isEmpty then some (.tup (List.replicate k.toNat l).flatten) else none
  | .fdiv, .int i, .int j => if divOk i j then some (.int (i / j)) else none
  | .mod, .int i, .int j => if decide (0 < j) then some (.int (i % j)) else none
  | .pow, .int i, .int j => if powOk i j then some (.int (i ^ j.toNat)) else none
  | _, _, _ => none

def dpOk (p : PyData) : Bool := p.canLay0 && decide (p.depth ≤ 150)
def eqD : D → D → Option Bool
  | .int i, .int j => some (decide (i = j))
  | .str x, .str y => some (decide (x = y))
  | .bl a, .bl b => some (decide (a = b))
  | x, y => match x.toP, y.toP with
    | some p, some q => if dpOk p && dpOk q then some (PyData.eqv p q) else none
    | _, _ => none
def keyD : D → Option Key
  | .int i => some (.inl i)
  | .str x => some (.inr x)
  | _ => none
def keyDs : List D → Option (List Key)
  | [] => some []
  | d :: r => (keyD d).bind fun k => (keyDs r).map fun ks => k :: ks
def tkeyD : D → Option (List Key)
  | .tup l => keyDs l
  | _ => none
section
variable {κ : Type} [DecidableEq κ]
def lkD : List κ → List D → κ → Option D
  | k :: ks, v :: vs, x => if k = x then some v else lkD ks vs x
  | _, _, _ => none
def setD : List κ → List D → κ → D → List D
  | k :: ks, v :: vs, x, w => if k = x then w :: setD ks vs x w else v :: setD ks vs x w
  | _, vs, _, _ => vs
def putKs (ks : List κ) (x : κ) : List κ := if x ∈ ks then ks else ks ++ [x]
def putVs (ks : List κ) (vs : List D) (x : κ) (w : D) : List D := if x ∈ ks then setD ks vs x w else vs ++ [w]
end
/-- d[k]: none: not served -/
def getKD : D → D → Option (Option D)
  | .dK ks vs, k => (keyD k).map fun x => lkD ks vs x
  | .dT ks vs, k => (tkeyD k).map fun x => lkD ks vs x
  | _, _ => none
def putKD : D → D → D → Option D
  | .dK ks vs, k, w => if ks.length < szL then (keyD k).map fun x => .dK (putKs ks x) (putVs ks vs x w) else none
  | .dT ks vs, k, w => if ks.length < szL then (tkeyD k).map fun x => .dT (putKs ks x) (putVs ks vs x w) else none
  | _, _, _ => none
/-- o[k] = w -/
def putD (o k w : D) : Option D :=
  match o with
  | .lst l => match k with
    | .int i => (L2.ixN l.length i).map fun j => .lst (l.set j w)
    | _ => none
  | o => putKD o k w
def anyEq (x : D) (l : List D) : Option Bool :=
  match x.toP, D.toPs l with
  | some p, some ps => if dpOk p && dpOk (.list ps) then some (ps.any fun z => PyData.eqv z p) else none
  | _, _ => none
def inD (x y : D) : Option Bool :=
  match y with
  | .lst l => anyEq x l
  | .tup l => anyEq x l
  | .dK _ _ => (getKD y x).map (·.isSome)
  | .dT _ _ => (getKD y x).map (·.isSome)
  | _ => none
def isNon : D → Bool
  | .non => true
  | _ => false
def cmpD : COp → D → D → Option Bool
  | .eq, x, y => eqD x y
  | .ne, x, y => (eqD x y).map (!·)
  | .lt, .int i, .int j => some (decide (i < j))
  | .le, .int i, .int j => some (decide (i ≤ j))
  | .gt, .int i, .int j => some (decide (j < i))
  | .ge, .int i, .int j => some (decide (j ≤ i))
  | .is, .bl a, .bl b => some (decide (a = b))
  | .isnot, .bl a, .bl b => some (!decide (a = b))
  | .is, x, .non => some (isNon x)
  | .isnot, x, .non => some (!isNon x)
  | .inn, x, y => inD x y
  | .notin, x, y => (inD x y).map (!·)
  | _, _, _ => none
def truD : D → Option Bool
  | .non => some false
  | .bl b => some b
  | .int i => some (i != 0)
  | .tup l => some (!l.isEmpty)
  | .lst l => some (!l.isEmpty)
  | .dK ks _ => some (!ks.isEmpty)
  | _ => none
/-- x[i] -/
def atD (l : List D) (i : Int) : Option D := atI l i
def ixD (x i : D) : Option D :=
  match x with
  | .tup l => match i with
    | .int k => atD l k
    | _ => none
  | .lst l => match i with
    | .int k => atD l k
    | _ => none
  | .dK _ _ => (getKD x i).bind id
  | .dT _ _ => (getKD x i).bind id
  | _ => none
/-- an end of a slice; np: it is not there -/
def endD (np : Bool) : D → Option (Option Int)
  | .non => if np then some none else none
  | .int i => if np then none else some (some i)
  | _ => none
def cutD (l : List D) (lo hi : Option Int) : List D := (l.drop (HT.sIx l.length 0 lo)).take (HT.sIx l.length l.length hi - HT.sIx l.length 0 lo)
def slcD (x : D) (lo hi : Option Int) : Option D :=
  match x with
  | .tup l => some (.tup (cutD l lo hi))
  | .lst l => some (.lst (cutD l lo hi))
  | .scr l => some (.lst (cutD l lo hi))
  | _ => none
inductive Bi where
  | len | int | tuple | list | repr | all | any | sum | max | min | abs | gcd | str
  deriving DecidableEq
inductive Ty where | int | bool | str | tuple | list | dict
  deriving DecidableEq
/-- isinstance(d, t) -/
def isiD (t : Ty) : D → Option Bool
  | .non => some false
  | .bl _ => some (decide (t = .int) || decide (t = .bool))
  | .int _ => some (decide (t = .int))
  | .str _ => some (decide (t = .str))
  | .tup _ => some (decide (t = .tuple))
  | .lst _ => some (decide (t = .list))
  | .scr _ => some (decide (t = .list))
  | .dK _ _ => some (decide (t = .dict))
  | .dT _ _ => some (decide (t = .dict))
  | _ => none
def allB : List D → Option (List Bool)
  | [] => some []
  | .bl b :: r => (allB r).map fun q => b :: q
  | _ :: _ => none
def allI : List D → Option (List Int)
  | [] => some []
  | .int b :: r => (allI r).map fun q => b :: q
  | _ :: _ => none
def maxI : Int → List Int → Int
  | a, [] => a
  | a, b :: r => maxI (if a < b then b else a) r
def minI : Int → List Int → Int
  | a, [] => a
  | a, b :: r => minI (if b < a then b else a) r
def reprD (d : D) : Option D := d.toP.bind fun p => if p.showable && decide (p.depth ≤ 150) && decide (p.shown.length ≤ szL) then some (.str p.shown) else none
/-- a built-in of values that were looked up -/
def biD : Bi → List D → Option D
  | .len, [.tup l] => some (.int l.length)
  | .len, [.lst l] => some (.int l.length)
  | .len, [.scr l] => some (.int l.length)
  | .int, [.int i] => some (.int i)
  | .int, [.bl b] => some (.int (if b then 1 else 0))
  | .tuple, [.tup l] => some (.tup l)
  | .tuple, [.lst l] => some (.tup l)
  | .list, [.tup l] => some (.lst l)
  | .list, [.lst l] => some (.lst l)
  | .repr, [d] => reprD d
  | .all, [.lst l] => (allB l).map fun bs => .bl (bs.all id)
  | .any, [.lst l] => (allB l).map fun bs => .bl (bs.any id)
  | .sum, [.lst l] => (allI l).map fun ns => .int ns.sum
  | .max, [.int i, .int j] => some (.int (if j > i then j else i))
  | .min, [.int i, .int j] => some (.int (if j < i then j else i))
  | .max, [.lst l] => (allI l).bind fun ns => match ns with
    | [] => none
    | a :: r => some (.int (maxI a r))
  | .min, [.lst l] => (allI l).bind fun ns => match ns with
    | [] => none
    | a :: r => some (.int (minI a r))
  | .abs, [.int i] => some (.int (if i < 0 then -i else i))
  | .gcd, [.int i, .int j] => some (.int (Int.gcd i j))
  | .str, [.int i] => if i.natAbs.log2 < 1920 then some (.str (toString i : String)) else none
  | _, _ => none

/-! ### the syntax -/
inductive Me where | append | pop | extend | get
  deriving DecidableEq
inductive Tg where
  | name (i : Nat)
  | nil | cons (a b : Tg)
  | tup (ts : Tg)
inductive Ex where
  | var (i : Nat)
  | int (i : Int) | str (x : Str) | bl (b : Bool) | non
  | gint (x : Str) (i : Int)
  | gfn (x : Str) (f : Nat)
  | bin (o : BOp) (m : Bool) (a b : Ex)
  | neg (a : Ex)
  | cmp (o : COp) (a b : Ex)
  | chain (o p : COp) (a b c : Ex)
  | andd (a b : Ex) | orr (a b : Ex) | one (a : Ex) | nott (a : Ex)
  | ite (c a b : Ex)
  | nil | cons (a b : Ex)
  | tup (es : Ex) | lst (m : Bool) (es : Ex)
  | dct (m t : Bool)
  | dsp (m : Bool) (ks : List Key) (vs : Ex)
  | call (x : Str) (f : Nat) (es : Ex)
  | callv (i : Nat) (es : Ex)
  | bi (b : Bi) (m : Bool) (es : Ex)
  | isi (t : Ty) (a : Ex)
  | ix (a i : Ex)
  | slc (m : Bool) (a lo hi : Ex)
  | nopart
  | rev (m : Bool) (a : Ex)
  | me (q : Me) (a es : Ex)
  | rng (es : Ex) | enu (a : Ex) | zip (a b : Ex)
  | lc (m : Bool) (own : List Nat) (t : Tg) (it : Ex) (c : Ex) (e : Ex)
  | frz (a : Ex)
def isNop : Ex → Bool
  | .nopart => true
  | _ => false
inductive St where
  | nil | cons (a b : St)
  | pass | asg (t : Tg) (e : Ex) | put (o i e : Ex) | put2 (o i p j e : Ex) | expr (e : Ex) | ret (e : Ex) | ret0
  | ite (c : Ex) (a b : St) | forr (t : Tg) (it : Ex) (b : St) | whil (c : Ex) (b : St) | brk | cnt | stuck

/-! ### the evaluator -/
abbrev Env := List (Option D)
/-- a, b = .. -/
def asgD : Tg → D → Env → Option Env
  | .name i, d, σ => some (σ.set i (some d))
  | .nil, .tup [], σ => some σ
  | .cons a b, .tup (d :: r), σ => (asgD a d σ).bind fun σ1 => asgD b (.tup r) σ1
  | .tup t, .tup l, σ => asgD t (.tup l) σ
  | _, _, _ => none
def wipeD (σ : Env) : List Nat → Env
  | [] => σ
  | v :: vs => (wipeD σ vs).set v none
def rngD : List D → Option (List D)
  | [.int n] => if decide (-(2 ^ 62) ≤ n) && decide (n < 2 ^ 62) then some ((List.range n.toNat).map fun (i : Nat) => .int (0 + i)) else none
  | [.int a, .int b] => if decide (-(2 ^ 62) ≤ a) && decide (a < 2 ^ 62) && decide (-(2 ^ 62) ≤ b) && decide (b < 2 ^ 62) then some ((List.range (b - a).toNat).map fun (i : Nat) => .int (a + i)) else none
  | _ => none
def enuD (n : Nat) : List D → List D
  | [] => []
  | d :: r => .tup [.int n, d] :: enuD (n + 1) r
def zipD : List D → List D → List D
  | a :: r, b :: q => .tup [a, b] :: zipD r q
  | _, _ => []
def ocons (o : Option D) (l : List D) : List D :=
  match o with
  | some d => d :: l
  | none => l
/-- what a list comprehension makes -/
def lcL (f : D → MH → R (Option D × MH)) : List D → MH → R (List D × MH)
  | [], h => .ok ([], h)
  | x :: xs, h => bnd (f x h) fun o h1 => bnd (lcL f xs h1) fun l h2 => .ok (ocons o l, h2)
def lcW (f : D → MH → R (Option D × MH)) (i : Nat) : Nat → Nat → MH → R (List D × MH)
  | 0, j, h => match h[i]? with
    | some (.lst l) => if l.length ≤ j then .ok ([], h) else .error .stuck
    | _ => .error .stuck
  | n + 1, j, h => match h[i]? with
    | some (.lst l) => match l[j]? with
      | some x => bnd (f x h) fun o h1 => bnd (lcW f i n (j + 1) h1) fun l h2 => .ok (ocons o l, h2)
      | none => .error .stuck
    | _ => .error .stuck
/-- what is walked: the things, or the list at i with its length -/
inductive Itr where
  | things (l : List D)
  | listAt (i n : Nat)
def lcR (f : D → MH → R (Option D × MH)) (w : Option Itr) (h : MH) : R (List D × MH) :=
  match w with
  | some (.things l) => grd (decide (l.length ≤ szL)) (lcL f l h)
  | some (.listAt i n) => grd (decide (n ≤ szL)) (lcW f i n 0 h)
  | none => .error .stuck
abbrev Caller := Nat → List D → MH → R (D × MH)
def itrOf (d : D) (h : MH) : Option Itr :=
  match d with
  | .lst l => some (.things l)
  | .tup l => some (.things l)
  | .scr l => some (.things l)
  | .ref i => match h[i]? with
    | some (.lst l) => some (.listAt i l.length)
    | _ => none
  | _ => none
def frzV (h : MH) : D → R (D × MH)
  | .ref i => match h[i]? with
    | some d => if isObj d then .ok (d, h.set i .non) else .error .stuck
    | none => .error .stuck
  | d => .ok (d, h)
/-- what a method is called on -/
def meTy : Me → D → Bool
  | .get, .dK _ _ => true
  | .get, .dT _ _ => true
  | .append, .lst _ => true
  | .pop, .lst _ => true
  | .extend, .lst _ => true
  | _, _ => false
def things : D → Option (List D)
  | .lst l => some l
  | .tup l => some l
  | _ => none
/-- a method, of values -/
def meR (q : Me) (x : D) (l : List D) (h : MH) : R (D × MH) :=
  match q with
  | .get => match l with
    | [k] => opt (getKD (deref h x) (deref h k)) fun o => .ok (o.getD .non, h)
    | [k, w] => opt (getKD (deref h x) (deref h k)) fun o => .ok (o.getD w, h)
    | _ => .error .stuck
  | .append => match x, l with
    | .ref i, [d] => match h[i]? with
      | some (.lst v) => grd (decide (v.length < szL) && d.okR i) (.ok (.non, h.set i (.lst (v ++ [d]))))
      | _ => .error .stuck
    | _, _ => .error .stuck
  | .pop => match x, l with
    | .ref i, [] => match h[i]? with
      | some (.lst v) => opt v[v.length - 1]? fun d => .ok (d, h.set i (.lst v.dropLast))
      | _ => .error .stuck
    | _, _ => .error .stuck
  | .extend => match x, l with
    | .ref i, [d] => match h[i]? with
      | some (.lst v) => opt (things (deref h d)) fun r => grd (decide (v.length + r.length ≤ szL) && D.okRs i r) (.ok (.non, h.set i (.lst (v ++ r))))
      | _ => .error .stuck
    | _, _ => .error .stuck
def ev (call : Caller) : Ex → Env → MH → R (D × MH)
  | .var i, σ, h => match σ[i]? with
    | some (some d) => .ok (d, h)
    | _ => .error .stuck
  | .int i, _, h => .ok (.int i, h)
  | .str x, _, h => .ok (.str x, h)
  | .bl b, _, h => .ok (.bl b, h)
  | .non, _, h => .ok (.non, h)
  | .gint _ i, _, h => .ok (.int i, h)
  | .gfn _ f, _, h => .ok (.fn f, h)
  | .bin o m a b, σ, h => bnd (ev call a σ h) fun x h1 => bnd (ev call b σ h1) fun y h2 => opt (binD o (deref h2 x) (deref h2 y)) fun d => alc m d h2
  | .neg a, σ, h => bnd (ev call a σ h) fun x h1 => match x with
    | .int i => .ok (.int (-i), h1)
    | _ => .error .stuck
  | .cmp o a b, σ, h => bnd (ev call a σ h) fun x h1 => bnd (ev call b σ h1) fun y h2 => opt (cmpD o (deref h2 x) (deref h2 y)) fun t => .ok (.bl t, h2)
  | .chain o p a b c, σ, h => bnd (ev call a σ h) fun x h1 => bnd (ev call b σ h1) fun y h2 => opt (cmpD o (deref h2 x) (deref h2 y)) fun t =>
      if t then bnd (ev call c σ h2) fun z h3 => opt (cmpD p (deref h3 y) (deref h3 z)) fun u => .ok (.bl u, h3) else .ok (.bl false, h2)
  | .andd a b, σ, h => bnd (ev call a σ h) fun x h1 => opt (truD (deref h1 x)) fun t => if t then ev call b σ h1 else .ok (x, h1)
  | .orr a b, σ, h => bnd (ev call a σ h) fun x h1 => opt (truD (deref h1 x)) fun t => if t then .ok (x, h1) else ev call b σ h1
  | .one a, σ, h => ev call a σ h
  | .nott a, σ, h => bnd (ev call a σ h) fun x h1 => opt (truD (deref h1 x)) fun t => .ok (.bl (!t), h1)
  | .ite c a b, σ, h => bnd (ev call c σ h) fun x h1 => opt (truD (deref h1 x)) fun t => if t then ev call a σ h1 else ev call b σ h1
  | .nil, _, h => .ok (.tup [], h)
  | .cons a b, σ, h => bnd (ev call a σ h) fun x h1 => bnd (ev call b σ h1) fun y h2 => match y with
    | .tup r => .ok (.tup (x :: r), h2)
    | _ => .error .stuck
  | .tup es, σ, h => bnd (ev call es σ h) fun x h1 => match x with
    | .tup l => grd (decide (l.length ≤ szL)) (.ok (.tup l, h1))
    | _ => .error .stuck
  | .lst m es, σ, h => bnd (ev call es σ h) fun x h1 => match x with
    | .tup l => grd (decide (l.length ≤ szL)) (alc m (.lst l) h1)
    | _ => .error .stuck
  | .dct m t, _, h => alc m (if t then .dT [] [] else .dK [] []) h
  | .dsp m ks vs, σ, h => bnd (ev call vs σ h) fun y h2 => match y with
    | .tup r => grd (decide (ks.length = r.length) && decide (ks.length ≤ 15) && decide ks.Nodup) (alc m (.dK ks r) h2)
    | _ => .error .stuck
  | .call _ f es, σ, h => bnd (ev call es σ h) fun x h1 => match x with
    | .tup l => call f l h1
    | _ => .error .stuck
  | .callv i es, σ, h => bnd (ev call es σ h) fun x h1 => match x with
    | .tup l => match σ[i]? with
      | some (some (.fn f)) => call f l h1
      | _ => .error .stuck
    | _ => .error .stuck
  | .bi b m es, σ, h => bnd (ev call es σ h) fun x h1 => match x with
    | .tup l => opt (biD b (l.map (deref h1))) fun d => alc m d h1
    | _ => .error .stuck
  | .isi t a, σ, h => bnd (ev call a σ h) fun x h1 => opt (isiD t (deref h1 x)) fun b => .ok (.bl b, h1)
  | .ix a i, σ, h => bnd (ev call a σ h) fun x h1 => bnd (ev call i σ h1) fun y h2 => opt (ixD (deref h2 x) (deref h2 y)) fun d => .ok (d, h2)
  | .nopart, _, h => .ok (.non, h)
  | .slc m a lo hi, σ, h => bnd (ev call a σ h) fun x h1 => bnd (ev call lo σ h1) fun y h2 => bnd (ev call hi σ h2) fun z h3 =>
      opt (endD (isNop lo) y) fun l => opt (endD (isNop hi) z) fun u => opt (slcD (deref h3 x) l u) fun d => alc m d h3
  | .rev m a, σ, h => bnd (ev call a σ h) fun x h1 => match deref h1 x with
    | .lst l => alc m (.lst l.reverse) h1
    | _ => .error .stuck
  | .me q a es, σ, h => bnd (ev call a σ h) fun x h1 => grd (meTy q (deref h1 x)) (bnd (ev call es σ h1) fun y h2 => match y with
    | .tup l => meR q x l h2
    | _ => .error .stuck)
  | .rng es, σ, h => bnd (ev call es σ h) fun x h1 => match x with
    | .tup l => opt (rngD l) fun r => .ok (.lst r, h1)
    | _ => .error .stuck
  | .enu a, σ, h => bnd (ev call a σ h) fun x h1 => match deref h1 x with
    | .lst l => .ok (.lst (enuD 0 l), h1)
    | .tup l => .ok (.lst (enuD 0 l), h1)
    | _ => .error .stuck
  | .zip a b, σ, h => bnd (ev call a σ h) fun x h1 => bnd (ev call b σ h1) fun y h2 => match deref h2 x, deref h2 y with
    | .lst l, .lst r => .ok (.lst (zipD l r), h2)
    | _, _ => .error .stuck
  | .lc m own t it c e, σ, h => bnd (ev call it σ h) fun w h1 =>
      bnd (lcR (fun x h2 => opt (asgD t x (wipeD σ own)) fun σ1 => bnd (ev call c σ1 h2) fun b h3 => opt (truD (deref h3 b)) fun u => if u then bnd (ev call e σ1 h3) fun d h4 => .ok (some d, h4) else .ok (none, h3)) (itrOf w h1) h1)
      fun l h2 => alc m (.lst l) h2
  | .frz a, σ, h => bnd (ev call a σ h) fun x h1 => frzV h1 x

/-! ### statements -/
inductive Fl where | nx | bk | ct | rt (d : D)
def forL (b : D → Env → MH → R ((Fl × Env) × MH)) : List D → Env → MH → R ((Fl × Env) × MH)
  | [], σ, h => .ok ((.nx, σ), h)
  | x :: xs, σ, h => bnd (b x σ h) fun p h1 => match p.1 with
    | .nx => forL b xs p.2 h1
    | .ct => forL b xs p.2 h1
    | .bk => .ok ((.nx, p.2), h1)
    | .rt d => .ok ((.rt d, p.2), h1)
def forW (b : D → Env → MH → R ((Fl × Env) × MH)) (i : Nat) : Nat → Nat → Env → MH → R ((Fl × Env) × MH)
  | 0, j, σ, h => match h[i]? with
    | some (.lst l) => if l.length ≤ j then .ok ((.nx, σ), h) else .error .stuck
    | _ => .error .stuck
  | n + 1, j, σ, h => match h[i]? with
    | some (.lst l) => match l[j]? with
      | some x => bnd (b x σ h) fun p h1 => match p.1 with
        | .nx => forW b i n (j + 1) p.2 h1
        | .ct => forW b i n (j + 1) p.2 h1
        | .bk => .ok ((.nx, p.2), h1)
        | .rt d => .ok ((.rt d, p.2), h1)
      | none => .error .stuck
    | _ => .error .stuck
def forR (b : D → Env → MH → R ((Fl × Env) × MH)) (w : Option Itr) (σ : Env) (h : MH) : R ((Fl × Env) × MH) :=
  match w with
  | some (.things l) => forL b l σ h
  | some (.listAt i n) => forW b i n 0 σ h
  | none => .error .stuck
def whlN (c : Env → MH → R (Bool × MH)) (b : Env → MH → R ((Fl × Env) × MH)) : Nat → Env → MH → R ((Fl × Env) × MH)
  | 0, _, _ => .error .stuck
  | n + 1, σ, h => bnd (c σ h) fun t h1 => if t then bnd (b σ h1) fun p h2 => (match p.1 with
      | .nx => whlN c b n p.2 h2
      | .ct => whlN c b n p.2 h2
      | .bk => .ok ((.nx, p.2), h2)
      | .rt d => .ok ((.rt d, p.2), h2)) else .ok ((.nx, σ), h1)
def wfuel : Nat := 1000000000
/-- x[y] = d -/
def putR (x y d : D) (h : MH) (k : MH → R ((Fl × Env) × MH)) : R ((Fl × Env) × MH) :=
  match x with
  | .ref j => opt h[j]? fun w => opt (putD w (deref h y) d) fun w1 => grd (d.okR j) (k (h.set j w1))
  | _ => .error .stuck
def exec (call : Caller) : St → Env → MH → R ((Fl × Env) × MH)
  | .nil, σ, h => .ok ((.nx, σ), h)
  | .cons a b, σ, h => bnd (exec call a σ h) fun p h1 => match p.1 with
    | .nx => exec call b p.2 h1
    | f => .ok ((f, p.2), h1)
  | .pass, σ, h => .ok ((.nx, σ), h)
  | .asg t e, σ, h => bnd (ev call e σ h) fun d h1 => opt (asgD t d σ) fun σ1 => .ok ((.nx, σ1), h1)
  | .put o i e, σ, h => bnd (ev call e σ h) fun d h1 => bnd (ev call o σ h1) fun x h2 => bnd (ev call i σ h2) fun y h3 => match x with
    | .ref j => opt h3[j]? fun w => opt (putD w (deref h3 y) d) fun w1 => grd (d.okR j) (.ok ((.nx, σ), h3.set j w1))
    | _ => .error .stuck
  | .put2 o i p j e, σ, h => bnd (ev call e σ h) fun d h1 => match d with
    | .tup [d1, d2] => bnd (ev call o σ h1) fun x h2 => bnd (ev call i σ h2) fun y h3 => putR x y d1 h3 fun h4 =>
        bnd (ev call p σ h4) fun x h5 => bnd (ev call j σ h5) fun y h6 => putR x y d2 h6 fun h7 => .ok ((.nx, σ), h7)
    | _ => .error .stuck
  | .expr e, σ, h => bnd (ev call e σ h) fun _ h1 => .ok ((.nx, σ), h1)
  | .ret e, σ, h => bnd (ev call e σ h) fun d h1 => .ok ((.rt d, σ), h1)
  | .ret0, σ, h => .ok ((.rt .non, σ), h)
  | .ite c a b, σ, h => bnd (ev call c σ h) fun x h1 => opt (truD (deref h1 x)) fun t => if t then exec call a σ h1 else exec call b σ h1
  | .forr t it b, σ, h => bnd (ev call it σ h) fun w h1 => forR (fun x σ1 h2 => opt (asgD t x σ1) fun σ2 => exec call b σ2 h2) (itrOf w h1) σ h1
  | .whil c b, σ, h => whlN (fun σ1 h1 => bnd (ev call c σ1 h1) fun x h2 => opt (truD (deref h2 x)) fun t => .ok (t, h2)) (fun σ1 h1 => exec call b σ1 h1) wfuel σ h
  | .brk, σ, h => .ok ((.bk, σ), h)
  | .cnt, σ, h => .ok ((.ct, σ), h)
  | .stuck, _, _ => .error .stuck

/-! ### defs -/
mutual
/-- the refs at n and above, by what stands there -/
def frzD (h : MH) (n : Nat) : D → Option D
  | .tup l => (frzDs h n l).map .tup
  | .lst l => (frzDs h n l).map .lst
  | .dK ks vs => (frzDs h n vs).map (.dK ks)
  | .dT ks vs => (frzDs h n vs).map (.dT ks)
  | .scr l => (frzDs h n l).map .scr
  | .ref i => if i < n then some (.ref i) else match h[i]? with
    | some o => if o.okR n && isObj o then some o else none
    | none => none
  | .non => some .non
  | .bl b => some (.bl b)
  | .int i => some (.int i)
  | .str x => some (.str x)
  | .fn f => some (.fn f)
def frzDs (h : MH) (n : Nat) : List D → Option (List D)
  | [] => some []
  | d :: r => (frzD h n d).bind fun x => (frzDs h n r).map fun y => x :: y
end
/-- behind a call: what the callee made is let go; mv: the one thing that it hands back goes on -/
def finish (mv : Bool) (n : Nat) (d : D) (h : MH) : R (D × MH) :=
  if d.okR n then .ok (d, h.take n) else
  if mv then match d with
    | .ref i => match h[i]? with
      | some o => grd (o.okR n && isObj o) (.ok (.ref n, h.take n ++ [o]))
      | none => .error .stuck
    | _ => .error .stuck
  else opt (frzD h n d) fun d' => .ok (d', h.take n)
structure Fn where
  ps : Nat
  n : Nat
  mv : Bool
  body : St
def callF (P : List Fn) : Nat → Caller
  | 0, _, _, _ => .error .stuck
  | k + 1, f, args, h => match P[f]? with
    | none => .error .stuck
    | some fn => grd (decide (args.length = fn.ps)) (bnd (exec (callF P k) fn.body (args.map some ++ List.replicate (fn.n - fn.ps) none) h) fun p h1 => match p.1 with
      | .rt d => finish fn.mv h.length d h1
      | .nx => finish fn.mv h.length .non h1
      | _ => .error .stuck)
end Mi
/-! Mi over the layer: which heaps stand for which things. -/
namespace Mi
open PySem PySem.Spec PyProof.Rows L2

abbrev Adrs := List (Option Addr)
section
variable (K : PySem.W.Frag) (F : Nat → Option Addr)
/-- a written list -/
def KLst (a : Addr) (xs : List V) : Prop := ∃ (o : Obj) (its : Array Value) (n : Nat), K.lookup a = some o ∧ o.cls = .type "list" ∧ o.dict = none ∧ o.data = .seq its n ∧ its.size ≤ sizeLine ∧ Vals xs its.toList
mutual
/-- v stands for the value; Xi: what changes and is hidden; rho: where the things of the small heap stand -/
def Rep (Xi : List Addr) (rho : Adrs) (H : Hp) : D → V → Prop
  | .non, v => v = .non
  | .bl b, v => v = .bl b
  | .int i, v => v = .int i
  | .str x, v => v = .str x
  | .tup l, v => ∃ a vs, v = .ref a ∧ H a = some (.tup vs) ∧ some a ∉ rho ∧ a ∉ Xi ∧ Reps Xi rho H l vs
  | .lst l, v => ∃ a vs, v = .ref a ∧ H a = some (.lst vs) ∧ some a ∉ rho ∧ a ∉ Xi ∧ Reps Xi rho H l vs
  | .scr l, v => ∃ a vs, v = .ref a ∧ ((Rd H a (.lst vs) ∧ some a ∉ rho ∧ a ∉ Xi) ∨ KLst K a vs) ∧ Reps Xi rho H l vs
  | .dK ks l, v => ∃ a vs, v = .ref a ∧ H a = some (.dK (ks.zip vs)) ∧ some a ∉ rho ∧ a ∉ Xi ∧ ks.length = vs.length ∧ Reps Xi rho H l vs
  | .dT ks l, v => ∃ a vs, v = .ref a ∧ H a = some (.dT (ks.zip vs)) ∧ some a ∉ rho ∧ a ∉ Xi ∧ ks.length = vs.length ∧ Reps Xi rho H l vs
  | .ref i, v => ∃ a, v = .ref a ∧ (rho[i]? = some (some a) ∨ rho[i]? = some none)
  | .fn i, v => ∃ a, v = .ref a ∧ F i = some a
def Reps (Xi : List Addr) (rho : Adrs) (H : Hp) : List D → List V → Prop
  | [], vs => vs = []
  | d :: r, vs => ∃ v q, vs = v :: q ∧ Rep Xi rho H d v ∧ Reps Xi rho H r q
end
/-- what stands at the address of a thing -/
def Cont (Xi : List Addr) (rho : Adrs) (H : Hp) (d : D) (o : HO) : Prop :=
  match d with
  | .lst l => ∃ vs, o = .lst vs ∧ Reps K F Xi rho H l vs
  | .dK ks l => ∃ vs, o = .dK (ks.zip vs) ∧ ks.length = vs.length ∧ Reps K F Xi rho H l vs
  | .dT ks l => ∃ vs, o = .dT (ks.zip vs) ∧ ks.length = vs.length ∧ Reps K F Xi rho H l vs
  | _ => False
def Ob (Xi : List Addr) (rho : Adrs) (H : Hp) (o : D) (i : Nat) : Prop :=
  (o = .non ∧ rho[i]? = some none) ∨ ∃ a ho, rho[i]? = some (some a) ∧ H a = some ho ∧ Cont K F Xi rho H o ho ∧ o.okR i = true
/-- the small heap h stands in H at rho -/
structure Rl (Xi : List Addr) (rho : Adrs) (h : MH) (H : Hp) : Prop where
  len : rho.length = h.length
  inj : ∀ (i j : Nat) (a : Addr), rho[i]? = some (some a) → rho[j]? = some (some a) → i = j
  xi : ∀ a ∈ Xi, H a ≠ none ∧ some a ∉ rho
  obj : ∀ (i : Nat) (o : D), h[i]? = some o → Ob K F Xi rho H o i
end
/-- a step: what is pure stays; things stay where they stand, or are let go -/
structure Sp (rho : Adrs) (H : Hp) (rho' : Adrs) (H' : Hp) : Prop where
  keep : ∀ a o, H a = some o → some a ∉ rho → H' a = some o
  len : rho.length ≤ rho'.length
  pre : ∀ i : Nat, i < rho.length → rho'[i]? = rho[i]? ∨ rho'[i]? = some none
  new : ∀ a, some a ∈ rho' → some a ∈ rho ∨ H a = none
/-- a weaker one: what is hidden may change -/
structure Mo (Xi : List Addr) (rho : Adrs) (H : Hp) (rho' : Adrs) (H' : Hp) : Prop where
  keep : ∀ a o, H a = some o → some a ∉ rho → a ∉ Xi → H' a = some o
  len : rho.length ≤ rho'.length
  pre : ∀ i : Nat, i < rho.length → rho'[i]? = rho[i]? ∨ rho'[i]? = some none
  new : ∀ a, some a ∈ rho' → some a ∈ rho ∨ H a = none
theorem Sp.mo {Xi : List Addr} {rho rho' : Adrs} {H H' : Hp} (s : Sp rho H rho' H') : Mo Xi rho H rho' H' := ⟨fun a o h1 h2 _ => s.keep a o h1 h2, s.len, s.pre, s.new⟩
theorem Sp.refl {rho : Adrs} {H : Hp} : Sp rho H rho H := ⟨fun _ _ h _ => h, Nat.le_refl _, fun _ _ => .inl rfl, fun _ h => .inl h⟩
theorem Sp.trans {r0 r1 r2 : Adrs} {H0 H1 H2 : Hp} (a : Sp r0 H0 r1 H1) (b : Sp r1 H1 r2 H2) : Sp r0 H0 r2 H2 where
  keep := fun p o h n => b.keep p o (a.keep p o h n) fun q => (a.new p q).elim n fun z => by rw [h] at z; cases z
  len := Nat.le_trans a.len b.len
  pre := fun i hi => by
    rcases b.pre i (Nat.lt_of_lt_of_le hi a.len) with e | e
    · rw [e]; exact a.pre i hi
    · exact .inr e
  new := fun p q => by
    rcases b.new p q with z | z
    · exact a.new p z
    · by_cases hp : some p ∈ r0
      · exact .inl hp
      · refine .inr ?_
        cases e : H0 p with
        | none => rfl
        | some o => rw [a.keep p o e hp] at z; cases z
section
variable {K : PySem.W.Frag} {F : Nat → Option Addr} {Xi : List Addr} {rho rho' : Adrs} {H H' : Hp} {h h' : MH}
theorem rd_mo {a : Addr} {u : HO} (s : Mo Xi rho H rho' H') (r : Rd H a u) (n : some a ∉ rho) (x : a ∉ Xi) : Rd H' a u := by
  rcases r with r | ⟨o, r⟩
  · exact .inl (s.keep a _ r n x)
  · exact .inr ⟨o, s.keep a _ r n x⟩
theorem rd_some {a : Addr} {u : HO} (r : Rd H a u) : H a ≠ none := by
  rcases r with r | ⟨o, r⟩ <;> rw [r] <;> simp
theorem Mo.nin {a : Addr} (s : Mo Xi rho H rho' H') (e : H a ≠ none) (n : some a ∉ rho) : some a ∉ rho' := fun q => (s.new a q).elim n e
mutual
theorem Rep.mo (s : Mo Xi rho H rho' H') : ∀ (d : D) (v : V), Rep K F Xi rho H d v → Rep K F Xi rho' H' d v
  | .non, v, h => by unfold Rep at h ⊢; exact h
  | .bl _, v, h => by unfold Rep at h ⊢; exact h
  | .int _, v, h => by unfold Rep at h ⊢; exact h
  | .str _, v, h => by unfold Rep at h ⊢; exact h
  | .fn _, v, h => by unfold Rep at h ⊢; exact h
  | .ref i, v, h => by
    unfold Rep at h ⊢
    obtain ⟨a, e, h⟩ := h
    refine ⟨a, e, ?_⟩
    have hi : i < rho.length := by
      rcases h with h | h <;> exact (List.getElem?_eq_some_iff.mp h).1
    rcases s.pre i hi with q | q
    · rw [q]; exact h
    · exact .inr q
  | .tup l, v, h => by
    unfold Rep at h ⊢
    obtain ⟨a, vs, e, h, n, x, r⟩ := h
    exact ⟨a, vs, e, s.keep a _ h n x, s.nin (rd_some (.inl h)) n, x, Reps.mo s l vs r⟩
  | .lst l, v, h => by
    unfold Rep at h ⊢
    obtain ⟨a, vs, e, h, n, x, r⟩ := h
    exact ⟨a, vs, e, s.keep a _ h n x, s.nin (rd_some (.inl h)) n, x, Reps.mo s l vs r⟩
  | .scr l, v, h => by
    unfold Rep at h ⊢
    obtain ⟨a, vs, e, h, r⟩ := h
    refine ⟨a, vs, e, ?_, Reps.mo s l vs r⟩
    rcases h with ⟨h, n, x⟩ | h
    · exact .inl ⟨rd_mo s h n x, s.nin (rd_some h) n, x⟩
    · exact .inr h
  | .dK ks l, v, h => by
    unfold Rep at h ⊢
    obtain ⟨a, vs, e, h, n, x, le, r⟩ := h
    exact ⟨a, vs, e, s.keep a _ h n x, s.nin (rd_some (.inl h)) n, x, le, Reps.mo s l vs r⟩
  | .dT ks l, v, h => by
    unfold Rep at h ⊢
    obtain ⟨a, vs, e, h, n, x, le, r⟩ := h
    exact ⟨a, vs, e, s.keep a _ h n x, s.nin (rd_some (.inl h)) n, x, le, Reps.mo s l vs r⟩
theorem Reps.mo (s : Mo Xi rho H rho' H') : ∀ (l : List D) (vs : List V), Reps K F Xi rho H l vs → Reps K F Xi rho' H' l vs
  | [], vs, h => by unfold Reps at h ⊢; exact h
  | d :: r, vs, h => by
    unfold Reps at h ⊢
    obtain ⟨v, q, e, h1, h2⟩ := h
    exact ⟨v, q, e, Rep.mo s d v h1, Reps.mo s r q h2⟩
end
/-- what is tracked already is not what comes new -/
theorem rd_ne {a p : Addr} {u : HO} (r : Rd H a u) (hp : H p = none) : a ≠ p := fun e => rd_some r (by rw [e]; exact hp)
mutual
theorem Rep.xi {p : Addr} (hp : H p = none) : ∀ (d : D) (v : V), Rep K F Xi rho H d v → Rep K F (p :: Xi) rho H d v
  | .non, v, h => by unfold Rep at h ⊢; exact h
  | .bl _, v, h => by unfold Rep at h ⊢; exact h
  | .int _, v, h => by unfold Rep at h ⊢; exact h
  | .str _, v, h => by unfold Rep at h ⊢; exact h
  | .fn _, v, h => by unfold Rep at h ⊢; exact h
  | .ref i, v, h => by unfold Rep at h ⊢; exact h
  | .tup l, v, h => by
    unfold Rep at h ⊢
    obtain ⟨a, vs, e, h, n, x, r⟩ := h
    exact ⟨a, vs, e, h, n, fun q => (List.mem_cons.mp q).elim (rd_ne (.inl h) hp) x, Reps.xi hp l vs r⟩
  | .lst l, v, h => by
    unfold Rep at h ⊢
    obtain ⟨a, vs, e, h, n, x, r⟩ := h
    exact ⟨a, vs, e, h, n, fun q => (List.mem_cons.mp q).elim (rd_ne (.inl h) hp) x, Reps.xi hp l vs r⟩
  | .scr l, v, h => by
    unfold Rep at h ⊢
    obtain ⟨a, vs, e, h, r⟩ := h
    refine ⟨a, vs, e, ?_, Reps.xi hp l vs r⟩
    rcases h with ⟨h, n, x⟩ | h
    · exact .inl ⟨h, n, fun q => (List.mem_cons.mp q).elim (rd_ne h hp) x⟩
    · exact .inr h
  | .dK ks l, v, h => by
    unfold Rep at h ⊢
    obtain ⟨a, vs, e, h, n, x, le, r⟩ := h
    exact ⟨a, vs, e, h, n, fun q => (List.mem_cons.mp q).elim (rd_ne (.inl h) hp) x, le, Reps.xi hp l vs r⟩
  | .dT ks l, v, h => by
    unfold Rep at h ⊢
    obtain ⟨a, vs, e, h, n, x, le, r⟩ := h
    exact ⟨a, vs, e, h, n, fun q => (List.mem_cons.mp q).elim (rd_ne (.inl h) hp) x, le, Reps.xi hp l vs r⟩
theorem Reps.xi {p : Addr} (hp : H p = none) : ∀ (l : List D) (vs : List V), Reps K F Xi rho H l vs → Reps K F (p :: Xi) rho H l vs
  | [], vs, h => by unfold Reps at h ⊢; exact h
  | d :: r, vs, h => by
    unfold Reps at h ⊢
    obtain ⟨v, q, e, h1, h2⟩ := h
    exact ⟨v, q, e, Rep.xi hp d v h1, Reps.xi hp r q h2⟩
end
mutual
theorem Rep.xis {Ys : List Addr} (hp : ∀ b ∈ Ys, b ∈ Xi ∨ H b = none) : ∀ (d : D) (v : V), Rep K F Xi rho H d v → Rep K F Ys rho H d v
  | .non, v, h => by unfold Rep at h ⊢; exact h
  | .bl _, v, h => by unfold Rep at h ⊢; exact h
  | .int _, v, h => by unfold Rep at h ⊢; exact h
  | .str _, v, h => by unfold Rep at h ⊢; exact h
  | .fn _, v, h => by unfold Rep at h ⊢; exact h
  | .ref i, v, h => by unfold Rep at h ⊢; exact h
  | .tup l, v, h => by
    unfold Rep at h ⊢
    obtain ⟨a, vs, e, h, n, x, r⟩ := h
    exact ⟨a, vs, e, h, n, fun q => (hp a q).elim x fun z => rd_some (.inl h) z, Reps.xis hp l vs r⟩
  | .lst l, v, h => by
    unfold Rep at h ⊢
    obtain ⟨a, vs, e, h, n, x, r⟩ := h
    exact ⟨a, vs, e, h, n, fun q => (hp a q).elim x fun z => rd_some (.inl h) z, Reps.xis hp l vs r⟩
  | .scr l, v, h => by
    unfold Rep at h ⊢
    obtain ⟨a, vs, e, h, r⟩ := h
    refine ⟨a, vs, e, ?_, Reps.xis hp l vs r⟩
    rcases h with ⟨h, n, x⟩ | h
    · exact .inl ⟨h, n, fun q => (hp a q).elim x fun z => rd_some h z⟩
    · exact .inr h
  | .dK ks l, v, h => by
    unfold Rep at h ⊢
    obtain ⟨a, vs, e, h, n, x, le, r⟩ := h
    exact ⟨a, vs, e, h, n, fun q => (hp a q).elim x fun z => rd_some (.inl h) z, le, Reps.xis hp l vs r⟩
  | .dT ks l, v, h => by
    unfold Rep at h ⊢
    obtain ⟨a, vs, e, h, n, x, le, r⟩ := h
    exact ⟨a, vs, e, h, n, fun q => (hp a q).elim x fun z => rd_some (.inl h) z, le, Reps.xis hp l vs r⟩
theorem Reps.xis {Ys : List Addr} (hp : ∀ b ∈ Ys, b ∈ Xi ∨ H b = none) : ∀ (l : List D) (vs : List V), Reps K F Xi rho H l vs → Reps K F Ys rho H l vs
  | [], vs, h => by unfold Reps at h ⊢; exact h
  | d :: r, vs, h => by
    unfold Reps at h ⊢
    obtain ⟨v, q, e, h1, h2⟩ := h
    exact ⟨v, q, e, Rep.xis hp d v h1, Reps.xis hp r q h2⟩
end
mutual
theorem Rep.unxi {p : Addr} : ∀ (d : D) (v : V), Rep K F (p :: Xi) rho H d v → Rep K F Xi rho H d v
  | .non, v, h => by unfold Rep at h ⊢; exact h
  | .bl _, v, h => by unfold Rep at h ⊢; exact h
  | .int _, v, h => by unfold Rep at h ⊢; exact h
  | .str _, v, h => by unfold Rep at h ⊢; exact h
  | .fn _, v, h => by unfold Rep at h ⊢; exact h
  | .ref i, v, h => by unfold Rep at h ⊢; exact h
  | .tup l, v, h => by
    unfold Rep at h ⊢
    obtain ⟨a, vs, e, h, n, x, r⟩ := h
    exact ⟨a, vs, e, h, n, fun q => x (List.mem_cons_of_mem _ q), Reps.unxi l vs r⟩
  | .lst l, v, h => by
    unfold Rep at h ⊢
    obtain ⟨a, vs, e, h, n, x, r⟩ := h
    exact ⟨a, vs, e, h, n, fun q => x (List.mem_cons_of_mem _ q), Reps.unxi l vs r⟩
  | .scr l, v, h => by
    unfold Rep at h ⊢
    obtain ⟨a, vs, e, h, r⟩ := h
    refine ⟨a, vs, e, ?_, Reps.unxi l vs r⟩
    rcases h with ⟨h, n, x⟩ | h
    · exact .inl ⟨h, n, fun q => x (List.mem_cons_of_mem _ q)⟩
    · exact .inr h
  | .dK ks l, v, h => by
    unfold Rep at h ⊢
    obtain ⟨a, vs, e, h, n, x, le, r⟩ := h
    exact ⟨a, vs, e, h, n, fun q => x (List.mem_cons_of_mem _ q), le, Reps.unxi l vs r⟩
  | .dT ks l, v, h => by
    unfold Rep at h ⊢
    obtain ⟨a, vs, e, h, n, x, le, r⟩ := h
    exact ⟨a, vs, e, h, n, fun q => x (List.mem_cons_of_mem _ q), le, Reps.unxi l vs r⟩
theorem Reps.unxi {p : Addr} : ∀ (l : List D) (vs : List V), Reps K F (p :: Xi) rho H l vs → Reps K F Xi rho H l vs
  | [], vs, h => by unfold Reps at h ⊢; exact h
  | d :: r, vs, h => by
    unfold Reps at h ⊢
    obtain ⟨v, q, e, h1, h2⟩ := h
    exact ⟨v, q, e, Rep.unxi d v h1, Reps.unxi r q h2⟩
end
mutual
theorem Rep.ok : ∀ (d : D) (v : V), Rep K F Xi rho H d v → d.okR rho.length = true
  | .non, v, h => rfl
  | .bl _, v, h => rfl
  | .int _, v, h => rfl
  | .str _, v, h => rfl
  | .fn _, v, h => rfl
  | .ref i, v, h => by
    unfold Rep at h
    obtain ⟨a, e, h⟩ := h
    have hi : i < rho.length := by
      rcases h with h | h <;> exact (List.getElem?_eq_some_iff.mp h).1
    unfold D.okR
    exact decide_eq_true hi
  | .tup l, v, h => by
    unfold Rep at h
    obtain ⟨a, vs, e, h, n, x, r⟩ := h
    unfold D.okR
    exact Reps.ok l vs r
  | .lst l, v, h => by
    unfold Rep at h
    obtain ⟨a, vs, e, h, n, x, r⟩ := h
    unfold D.okR
    exact Reps.ok l vs r
  | .scr l, v, h => by
    unfold Rep at h
    obtain ⟨a, vs, e, h, r⟩ := h
    unfold D.okR
    exact Reps.ok l vs r
  | .dK ks l, v, h => by
    unfold Rep at h
    obtain ⟨a, vs, e, h, n, x, le, r⟩ := h
    unfold D.okR
    exact Reps.ok l vs r
  | .dT ks l, v, h => by
    unfold Rep at h
    obtain ⟨a, vs, e, h, n, x, le, r⟩ := h
    unfold D.okR
    exact Reps.ok l vs r
theorem Reps.ok : ∀ (l : List D) (vs : List V), Reps K F Xi rho H l vs → D.okRs rho.length l = true
  | [], vs, h => rfl
  | d :: r, vs, h => by
    unfold Reps at h
    obtain ⟨v, q, e, h1, h2⟩ := h
    unfold D.okRs
    rw [Rep.ok d v h1, Reps.ok r q h2]
    rfl
end
theorem Cont.mo (s : Mo Xi rho H rho' H') {d : D} {o : HO} (c : Cont K F Xi rho H d o) : Cont K F Xi rho' H' d o := by
  cases d with
  | lst l => obtain ⟨vs, e, r⟩ := c; exact ⟨vs, e, Reps.mo s l vs r⟩
  | dK ks l => obtain ⟨vs, e, le, r⟩ := c; exact ⟨vs, e, le, Reps.mo s l vs r⟩
  | dT ks l => obtain ⟨vs, e, le, r⟩ := c; exact ⟨vs, e, le, Reps.mo s l vs r⟩
  | _ => exact c.elim
theorem Cont.xi {p : Addr} (hp : H p = none) {d : D} {o : HO} (c : Cont K F Xi rho H d o) : Cont K F (p :: Xi) rho H d o := by
  cases d with
  | lst l => obtain ⟨vs, e, r⟩ := c; exact ⟨vs, e, Reps.xi hp l vs r⟩
  | dK ks l => obtain ⟨vs, e, le, r⟩ := c; exact ⟨vs, e, le, Reps.xi hp l vs r⟩
  | dT ks l => obtain ⟨vs, e, le, r⟩ := c; exact ⟨vs, e, le, Reps.xi hp l vs r⟩
  | _ => exact c.elim
theorem Cont.unxi {p : Addr} {d : D} {o : HO} (c : Cont K F (p :: Xi) rho H d o) : Cont K F Xi rho H d o := by
  cases d with
  | lst l => obtain ⟨vs, e, r⟩ := c; exact ⟨vs, e, Reps.unxi l vs r⟩
  | dK ks l => obtain ⟨vs, e, le, r⟩ := c; exact ⟨vs, e, le, Reps.unxi l vs r⟩
  | dT ks l => obtain ⟨vs, e, le, r⟩ := c; exact ⟨vs, e, le, Reps.unxi l vs r⟩
  | _ => exact c.elim
theorem Cont.ok {d : D} {o : HO} (c : Cont K F Xi rho H d o) : d.okR rho.length = true := by
  cases d with
  | lst l => obtain ⟨vs, e, r⟩ := c; exact Reps.ok l vs r
  | dK ks l => obtain ⟨vs, e, le, r⟩ := c; exact Reps.ok l vs r
  | dT ks l => obtain ⟨vs, e, le, r⟩ := c; exact Reps.ok l vs r
  | _ => exact c.elim
theorem Cont.isObj {d : D} {o : HO} (c : Cont K F Xi rho H d o) : isObj d = true := by
  cases d <;> first | rfl | exact c.elim
theorem Rep.ofCont {d : D} {o : HO} {a : Addr} (c : Cont K F Xi rho H d o) (r : H a = some o) (n : some a ∉ rho) (x : a ∉ Xi) : Rep K F Xi rho H d (.ref a) := by
  cases d with
  | lst l => obtain ⟨vs, rfl, q⟩ := c; unfold Rep; exact ⟨a, vs, rfl, r, n, x, q⟩
  | dK ks l => obtain ⟨vs, rfl, le, q⟩ := c; unfold Rep; exact ⟨a, vs, rfl, r, n, x, le, q⟩
  | dT ks l => obtain ⟨vs, rfl, le, q⟩ := c; unfold Rep; exact ⟨a, vs, rfl, r, n, x, le, q⟩
  | _ => exact c.elim
theorem Rep.cont {d : D} {v : V} (r : Rep K F Xi rho H d v) (i : isObj d = true) : ∃ a o, v = .ref a ∧ H a = some o ∧ some a ∉ rho ∧ a ∉ Xi ∧ Cont K F Xi rho H d o := by
  cases d with
  | lst l => unfold Rep at r; obtain ⟨a, vs, e, h, n, x, q⟩ := r; exact ⟨a, _, e, h, n, x, vs, rfl, q⟩
  | dK ks l => unfold Rep at r; obtain ⟨a, vs, e, h, n, x, le, q⟩ := r; exact ⟨a, _, e, h, n, x, vs, rfl, le, q⟩
  | dT ks l => unfold Rep at r; obtain ⟨a, vs, e, h, n, x, le, q⟩ := r; exact ⟨a, _, e, h, n, x, vs, rfl, le, q⟩
  | _ => cases i
/-- what may be read of a value that was looked up -/
def Rx (K : PySem.W.Frag) (F : Nat → Option Addr) (Xi : List Addr) (rho : Adrs) (H : Hp) (d : D) (v : V) : Prop :=
  if isObj d = true then ∃ a o, v = .ref a ∧ H a = some o ∧ Cont K F Xi rho H d o else Rep K F Xi rho H d v
theorem Rl.rx (rl : Rl K F Xi rho h H) {d : D} {v : V} (r : Rep K F Xi rho H d v) : Rx K F Xi rho H (deref h d) v := by
  unfold Rx
  have base : ∀ d v, (∀ i, d ≠ .ref i) → Rep K F Xi rho H d v → if isObj d = true then ∃ a o, v = .ref a ∧ H a = some o ∧ Cont K F Xi rho H d o else Rep K F Xi rho H d v := fun d v _ r => by
    by_cases io : isObj d = true
    · rw [if_pos io]
      obtain ⟨a, o, e, h, _, _, c⟩ := r.cont io
      exact ⟨a, o, e, h, c⟩
    · rw [if_neg io]; exact r
  cases d with
  | ref i =>
    cases e : h[i]? with
    | none =>
      have de : deref h (.ref i) = .ref i := by
        show (match h[i]? with | some d => if isObj d = true then d else D.ref i | none => .ref i) = _
        rw [e]
      rw [de]
      exact r
    | some o =>
      by_cases io : isObj o = true
      · have de : deref h (.ref i) = o := by
          show (match h[i]? with | some d => if isObj d = true then d else D.ref i | none => .ref i) = _
          rw [e]
          exact if_pos io
        rw [de, if_pos io]
        unfold Rep at r
        obtain ⟨a, ev, r⟩ := r
        rcases rl.obj i o e with ⟨z, _⟩ | ⟨a', ho, e1, e2, c, _⟩
        · subst z; cases io
        · rcases r with r | r
          · rw [e1] at r; cases r
            exact ⟨a, ho, ev, e2, c⟩
          · rw [e1] at r; cases r
      · have de : deref h (.ref i) = .ref i := by
          show (match h[i]? with | some d => if isObj d = true then d else D.ref i | none => .ref i) = _
          rw [e]
          exact if_neg io
        rw [de]
        exact r
  | _ => exact base _ _ (fun _ z => by cases z) r
theorem Rx.lst {l : List D} {v : V} (r : Rx K F Xi rho H (.lst l) v) : ∃ a vs, v = .ref a ∧ H a = some (.lst vs) ∧ Reps K F Xi rho H l vs := by
  unfold Rx at r
  rw [if_pos (by rfl)] at r
  obtain ⟨a, o, e, h, vs, rfl, q⟩ := r
  exact ⟨a, vs, e, h, q⟩
theorem Rx.dK {ks : List Key} {l : List D} {v : V} (r : Rx K F Xi rho H (.dK ks l) v) : ∃ a vs, v = .ref a ∧ H a = some (.dK (ks.zip vs)) ∧ ks.length = vs.length ∧ Reps K F Xi rho H l vs := by
  unfold Rx at r
  rw [if_pos (by rfl)] at r
  obtain ⟨a, o, e, h, vs, rfl, le, q⟩ := r
  exact ⟨a, vs, e, h, le, q⟩
theorem Rx.dT {ks : List (List Key)} {l : List D} {v : V} (r : Rx K F Xi rho H (.dT ks l) v) : ∃ a vs, v = .ref a ∧ H a = some (.dT (ks.zip vs)) ∧ ks.length = vs.length ∧ Reps K F Xi rho H l vs := by
  unfold Rx at r
  rw [if_pos (by rfl)] at r
  obtain ⟨a, o, e, h, vs, rfl, le, q⟩ := r
  exact ⟨a, vs, e, h, le, q⟩
theorem Rx.rep {d : D} {v : V} (r : Rx K F Xi rho H d v) (i : isObj d = false) : Rep K F Xi rho H d v := by
  unfold Rx at r
  rw [i] at r
  exact r
theorem Rep.eint {i : Int} {v : V} (r : Rep K F Xi rho H (.int i) v) : v = .int i := by unfold Rep at r; exact r
theorem Rep.estr {i : Str} {v : V} (r : Rep K F Xi rho H (.str i) v) : v = .str i := by unfold Rep at r; exact r
theorem Rep.ebl {i : Bool} {v : V} (r : Rep K F Xi rho H (.bl i) v) : v = .bl i := by unfold Rep at r; exact r
theorem Rep.enon {v : V} (r : Rep K F Xi rho H .non v) : v = .non := by unfold Rep at r; exact r
theorem Rep.etup {l : List D} {v : V} (r : Rep K F Xi rho H (.tup l) v) : ∃ a vs, v = .ref a ∧ H a = some (.tup vs) ∧ Reps K F Xi rho H l vs := by
  unfold Rep at r
  obtain ⟨a, vs, e, h, n, x, q⟩ := r
  exact ⟨a, vs, e, h, q⟩
theorem Rep.escr {l : List D} {v : V} (r : Rep K F Xi rho H (.scr l) v) : ∃ a vs, v = .ref a ∧ SqL K H a vs ∧ Reps K F Xi rho H l vs := by
  unfold Rep at r
  obtain ⟨a, vs, e, h, q⟩ := r
  refine ⟨a, vs, e, ?_, q⟩
  rcases h with ⟨h, _⟩ | h
  · exact .inl h
  · exact .inr h
theorem Cont.l {l : List D} {vs : List V} (r : Reps K F Xi rho H l vs) : Cont K F Xi rho H (.lst l) (.lst vs) := ⟨vs, rfl, r⟩
theorem Cont.k {ks : List Key} {l : List D} {vs : List V} (e : ks.length = vs.length) (r : Reps K F Xi rho H l vs) : Cont K F Xi rho H (.dK ks l) (.dK (ks.zip vs)) := ⟨vs, rfl, e, r⟩
theorem Cont.t {ks : List (List Key)} {l : List D} {vs : List V} (e : ks.length = vs.length) (r : Reps K F Xi rho H l vs) : Cont K F Xi rho H (.dT ks l) (.dT (ks.zip vs)) := ⟨vs, rfl, e, r⟩
theorem Reps.cons_inv {d : D} {l : List D} {vs : List V} (r : Reps K F Xi rho H (d :: l) vs) : ∃ v q, vs = v :: q ∧ Rep K F Xi rho H d v ∧ Reps K F Xi rho H l q := by unfold Reps at r; exact r
theorem Reps.nil_inv {vs : List V} (r : Reps K F Xi rho H [] vs) : vs = [] := by unfold Reps at r; exact r
theorem Reps.nil' : Reps K F Xi rho H [] [] := by unfold Reps; rfl
theorem Reps.cons' {d : D} {l : List D} {v : V} {vs : List V} (r : Rep K F Xi rho H d v) (q : Reps K F Xi rho H l vs) : Reps K F Xi rho H (d :: l) (v :: vs) := by unfold Reps; exact ⟨v, vs, rfl, r, q⟩
theorem Reps.length : ∀ {l : List D} {vs : List V}, Reps K F Xi rho H l vs → vs.length = l.length
  | [], vs, r => by rw [r.nil_inv]; rfl
  | d :: l, vs, r => by
    obtain ⟨v, q, rfl, _, r2⟩ := r.cons_inv
    rw [List.length_cons, List.length_cons, r2.length]
theorem Reps.append' : ∀ {l r : List D} {vs ws : List V}, Reps K F Xi rho H l vs → Reps K F Xi rho H r ws → Reps K F Xi rho H (l ++ r) (vs ++ ws)
  | [], r, vs, ws, p, q => by rw [p.nil_inv]; exact q
  | d :: l, r, vs, ws, p, q => by
    obtain ⟨v, t, rfl, p1, p2⟩ := p.cons_inv
    exact Reps.cons' p1 (Reps.append' p2 q)
theorem Reps.get : ∀ {l : List D} {vs : List V} {i : Nat} {d : D}, Reps K F Xi rho H l vs → l[i]? = some d → ∃ v, vs[i]? = some v ∧ Rep K F Xi rho H d v
  | [], vs, i, d, p, e => by simp at e
  | x :: l, vs, 0, d, p, e => by
    obtain ⟨v, t, rfl, p1, p2⟩ := p.cons_inv
    simp at e; subst e
    exact ⟨v, rfl, p1⟩
  | x :: l, vs, i + 1, d, p, e => by
    obtain ⟨v, t, rfl, p1, p2⟩ := p.cons_inv
    obtain ⟨w, e1, e2⟩ := Reps.get (i := i) p2 (by simpa using e)
    exact ⟨w, by simpa using e1, e2⟩
theorem Reps.drop' : ∀ {l : List D} {vs : List V} (n : Nat), Reps K F Xi rho H l vs → Reps K F Xi rho H (l.drop n) (vs.drop n)
  | l, vs, 0, p => p
  | [], vs, n + 1, p => by rw [p.nil_inv]; exact Reps.nil'
  | x :: l, vs, n + 1, p => by
    obtain ⟨v, t, rfl, p1, p2⟩ := p.cons_inv
    exact Reps.drop' n p2
theorem Reps.take' : ∀ {l : List D} {vs : List V} (n : Nat), Reps K F Xi rho H l vs → Reps K F Xi rho H (l.take n) (vs.take n)
  | l, vs, 0, p => Reps.nil'
  | [], vs, n + 1, p => by rw [p.nil_inv]; exact Reps.nil'
  | x :: l, vs, n + 1, p => by
    obtain ⟨v, t, rfl, p1, p2⟩ := p.cons_inv
    exact Reps.cons' p1 (Reps.take' n p2)
theorem Reps.reverse' {l : List D} {vs : List V} (p : Reps K F Xi rho H l vs) : Reps K F Xi rho H l.reverse vs.reverse := by
  induction l generalizing vs with
  | nil => rw [p.nil_inv]; exact Reps.nil'
  | cons x l ih =>
    obtain ⟨v, t, rfl, p1, p2⟩ := p.cons_inv
    rw [List.reverse_cons, List.reverse_cons]
    exact Reps.append' (ih p2) (Reps.cons' p1 Reps.nil')
theorem Reps.dropLast' : ∀ {l : List D} {vs : List V}, Reps K F Xi rho H l vs → Reps K F Xi rho H l.dropLast vs.dropLast
  | [], vs, p => by rw [p.nil_inv]; exact Reps.nil'
  | [x], vs, p => by
    obtain ⟨v, t, rfl, p1, p2⟩ := p.cons_inv
    rw [p2.nil_inv]; exact Reps.nil'
  | x :: y :: l, vs, p => by
    obtain ⟨v, t, rfl, p1, p2⟩ := p.cons_inv
    obtain ⟨v2, t2, rfl, p3, p4⟩ := p2.cons_inv
    exact Reps.cons' p1 (Reps.dropLast' p2)
end
end Mi
/-! Mi over the layer: what is new, what is changed, the operations by values. -/
namespace Mi
open PySem PySem.Spec PyProof.Rows L2

theorem bnd_inv {α β : Type} {r : R (α × MH)} {f : α → MH → R β} {z : β} (e : bnd r f = .ok z) : ∃ a h, r = .ok (a, h) ∧ f a h = .ok z := by
  cases r with
  | error q => cases e
  | ok p => exact ⟨p.1, p.2, rfl, e⟩
theorem opt_inv {α β : Type} {o : Option α} {f : α → R β} {z : β} (e : opt o f = .ok z) : ∃ a, o = some a ∧ f a = .ok z := by
  cases o with
  | none => cases e
  | some a => exact ⟨a, rfl, e⟩
theorem grd_inv {β : Type} {b : Bool} {r : R β} {z : β} (e : grd b r = .ok z) : b = true ∧ r = .ok z := by
  cases b with
  | false => cases e
  | true => exact ⟨rfl, e⟩
theorem ok_inv {α : Type} {a b : α} (e : (Except.ok a : R α) = .ok b) : a = b := Except.ok.inj e
theorem szL_eq : szL = sizeLine := rfl

section
variable {K : PySem.W.Frag} {F : Nat → Option Addr} {Xi : List Addr} {rho rho' : Adrs} {H H' : Hp} {h h' : MH}
/-- what is wanted behind an evaluation -/
def Post (K : PySem.W.Frag) (F : Nat → Option Addr) (Xi : List Addr) (rho : Adrs) (H : Hp) (d : D) (h : MH) (Q : VK) : Prop :=
  ∀ v H' rho', Sp rho H rho' H' → Rl K F Xi rho' h H' → Rep K F Xi rho' H' d v → Q v H'
theorem Post.on {d : D} {Q : VK} (p : Post K F Xi rho H d h Q) (s : Sp rho H rho' H') : Post K F Xi rho' H' d h Q := fun v H2 r2 s2 rl r => p v H2 r2 (s.trans s2) rl r
theorem Post.here {d : D} {v : V} {Q : VK} (p : Post K F Xi rho H d h Q) (rl : Rl K F Xi rho h H) (r : Rep K F Xi rho H d v) : Q v H := p v H rho Sp.refl rl r
theorem Rl.live (rl : Rl K F Xi rho h H) {a : Addr} (ha : some a ∈ rho) : H a ≠ none := by
  obtain ⟨i, hi⟩ := List.mem_iff_getElem?.mp ha
  have hl : i < h.length := by rw [← rl.len]; exact (List.getElem?_eq_some_iff.mp hi).1
  rcases rl.obj i _ (List.getElem?_eq_getElem hl) with ⟨_, z⟩ | ⟨b, ho, e1, e2, _⟩
  · rw [hi] at z; cases z
  · rw [hi] at e1; cases e1
    rw [e2]; simp
theorem Rl.fresh (rl : Rl K F Xi rho h H) {p : Addr} (hp : H p = none) : some p ∉ rho ∧ p ∉ Xi := ⟨fun q => rl.live q hp, fun q => (rl.xi p q).1 hp⟩
theorem sp_new {p : Addr} {o : HO} (hp : H p = none) : Sp rho H rho (upd H p o) :=
  ⟨fun a u e _ => by rw [upd_ne (ne_of_none e hp)]; exact e, Nat.le_refl _, fun _ _ => .inl rfl, fun _ q => .inl q⟩
theorem Rl.step (rl : Rl K F Xi rho h H) (k : ∀ a o, H a = some o → H' a = some o) : Rl K F Xi rho h H' := by
  have mo : Mo Xi rho H rho H' := ⟨fun a o e _ _ => k a o e, Nat.le_refl _, fun _ _ => .inl rfl, fun _ q => .inl q⟩
  refine ⟨rl.len, rl.inj, fun a ha => ⟨fun z => ?_, (rl.xi a ha).2⟩, fun i o e => ?_⟩
  · cases q : H a with
    | none => exact (rl.xi a ha).1 q
    | some u => rw [k a u q] at z; cases z
  · rcases rl.obj i o e with q | ⟨a, ho, e1, e2, c, z⟩
    · exact .inl q
    · exact .inr ⟨a, ho, e1, k a ho e2, c.mo mo, z⟩
theorem Rl.new (rl : Rl K F Xi rho h H) {p : Addr} {o : HO} (hp : H p = none) : Rl K F Xi rho h (upd H p o) :=
  rl.step fun a u e => by rw [upd_ne (ne_of_none e hp)]; exact e
/-- a new thing that is kept hidden at first -/
theorem Rl.hide (rl : Rl K F Xi rho h H) {p : Addr} {o : HO} (hp : H p = none) : Rl K F (p :: Xi) rho h (upd H p o) := by
  have r2 := rl.new (o := o) hp
  refine ⟨r2.len, r2.inj, fun a ha => ?_, fun i u e => ?_⟩
  · rcases List.mem_cons.mp ha with q | q
    · subst q; exact ⟨by rw [upd_same]; simp, (rl.fresh hp).1⟩
    · exact r2.xi a q
  · rcases rl.obj i u e with q | ⟨a, ho, e1, e2, c, z⟩
    · exact .inl q
    · refine .inr ⟨a, ho, e1, ?_, (c.xi hp).mo (sp_new hp).mo, z⟩
      rw [upd_ne (ne_of_none e2 hp)]; exact e2
theorem Rl.unhide {p : Addr} (rl : Rl K F (p :: Xi) rho h H) : Rl K F Xi rho h H :=
  ⟨rl.len, rl.inj, fun a ha => rl.xi a (List.mem_cons_of_mem _ ha), fun i u e => by
    rcases rl.obj i u e with q | ⟨a, ho, e1, e2, c, z⟩
    · exact .inl q
    · exact .inr ⟨a, ho, e1, e2, c.unxi, z⟩⟩
/-- the owner writes what is hidden -/
theorem Rl.own {p : Addr} {o : HO} (rl : Rl K F (p :: Xi) rho h H) : Rl K F (p :: Xi) rho h (upd H p o) ∧ Mo (p :: Xi) rho H rho (upd H p o) := by
  have hp : some p ∉ rho := (rl.xi p List.mem_cons_self).2
  have mo : Mo (p :: Xi) rho H rho (upd H p o) := ⟨fun a u e _ x => by rw [upd_ne (fun z => x (by rw [z]; exact List.mem_cons_self))]; exact e, Nat.le_refl _, fun _ _ => .inl rfl, fun _ q => .inl q⟩
  refine ⟨⟨rl.len, rl.inj, fun a ha => ⟨?_, (rl.xi a ha).2⟩, fun i u e => ?_⟩, mo⟩
  · by_cases q : a = p
    · subst q; rw [upd_same]; simp
    · rw [upd_ne q]; exact (rl.xi a ha).1
  · rcases rl.obj i u e with q | ⟨a, ho, e1, e2, c, z⟩
    · exact .inl q
    · refine .inr ⟨a, ho, e1, ?_, c.mo mo, z⟩
      rw [upd_ne fun q => hp (by rw [← q]; exact List.mem_of_getElem? e1)]
      exact e2
/-- what was hidden is told: as a value, or as a thing of the small heap -/
theorem alc_at {m : Bool} {o r : D} {ho : HO} {p : Addr} {rho0 : Adrs} {H0 : Hp} (rl : Rl K F (p :: Xi) rho h H) (nx : p ∉ Xi) (hp : H p = some ho) (c : Cont K F (p :: Xi) rho H o ho) (e : alc m o h = .ok (r, h'))
    (s : Sp rho0 H0 rho H) (h0 : H0 p = none) : ∃ rho', Sp rho0 H0 rho' H ∧ Rl K F Xi rho' h' H ∧ Rep K F Xi rho' H r (.ref p) := by
  have np : some p ∉ rho := (rl.xi p List.mem_cons_self).2
  unfold alc at e
  rw [c.isObj, Bool.and_true] at e
  cases m with
  | false =>
    cases e
    exact ⟨rho, s, rl.unhide, Rep.ofCont c.unxi hp np nx⟩
  | true =>
    cases e
    have sp : Sp rho H (rho ++ [some p]) H → True := fun _ => trivial
    have mo : Mo (p :: Xi) rho H (rho ++ [some p]) H → True := fun _ => trivial
    have mono : Mo Xi rho (fun b => if b = p then none else H b) (rho ++ [some p]) H := by
      refine ⟨fun a u e _ _ => ?_, by simp, fun i hi => .inl (List.getElem?_append_left hi), fun a q => ?_⟩
      · have e' : (if a = p then none else H a) = some u := e
        split at e'
        · cases e'
        · exact e'
      · rcases List.mem_append.mp q with q | q
        · exact .inl q
        · have q' : a = p := by simpa using q
          exact .inr (if_pos q')
    -- what is told without p stands
    have drop : ∀ {d : D} {u : HO}, Cont K F (p :: Xi) rho H d u → Cont K F Xi (rho ++ [some p]) H d u := fun {d u} c => by
      have all : (∀ (d : D) (v : V), Rep K F (p :: Xi) rho H d v → Rep K F Xi (rho ++ [some p]) H d v) ∧ True := by
        refine ⟨?_, trivial⟩
        have nin : ∀ {a : Addr}, some a ∉ rho → a ∉ p :: Xi → some a ∉ rho ++ [some p] := fun {a} h1 h2 q => by
          rcases List.mem_append.mp q with q | q
          · exact h1 q
          · have q' : a = p := by simpa using q
            exact h2 (by rw [q']; exact List.mem_cons_self)
        have nx : ∀ {a : Addr}, a ∉ p :: Xi → a ∉ Xi := fun {a} h q => h (List.mem_cons_of_mem _ q)
        intro d
        refine D.rec (motive_1 := fun d => ∀ v, Rep K F (p :: Xi) rho H d v → Rep K F Xi (rho ++ [some p]) H d v) (motive_2 := fun l => ∀ vs, Reps K F (p :: Xi) rho H l vs → Reps K F Xi (rho ++ [some p]) H l vs)
          ?_ ?_ ?_ ?_ ?_ ?_ ?_ ?_ ?_ ?_ ?_ ?_ ?_ d
        · intro v h; unfold Rep at h ⊢; exact h
        · intro b v h; unfold Rep at h ⊢; exact h
        · intro b v h; unfold Rep at h ⊢; exact h
        · intro b v h; unfold Rep at h ⊢; exact h
        · intro l ih v h
          unfold Rep at h ⊢
          obtain ⟨a, vs, e, h, n, x, r⟩ := h
          exact ⟨a, vs, e, h, nin n x, nx x, ih vs r⟩
        · intro l ih v h
          unfold Rep at h ⊢
          obtain ⟨a, vs, e, h, n, x, r⟩ := h
          exact ⟨a, vs, e, h, nin n x, nx x, ih vs r⟩
        · intro ks l ih v h
          unfold Rep at h ⊢
          obtain ⟨a, vs, e, h, n, x, le, r⟩ := h
          exact ⟨a, vs, e, h, nin n x, nx x, le, ih vs r⟩
        · intro ks l ih v h
          unfold Rep at h ⊢
          obtain ⟨a, vs, e, h, n, x, le, r⟩ := h
          exact ⟨a, vs, e, h, nin n x, nx x, le, ih vs r⟩
        · intro i v h
          unfold Rep at h ⊢
          obtain ⟨a, e, h⟩ := h
          refine ⟨a, e, ?_⟩
          have hi : i < rho.length := by
            rcases h with h | h <;> exact (List.getElem?_eq_some_iff.mp h).1
          rw [List.getElem?_append_left hi]
          exact h
        · intro b v h; unfold Rep at h ⊢; exact h
        · intro l ih v h
          unfold Rep at h ⊢
          obtain ⟨a, vs, e, h, r⟩ := h
          refine ⟨a, vs, e, ?_, ih vs r⟩
          rcases h with ⟨h, n, x⟩ | h
          · exact .inl ⟨h, nin n x, nx x⟩
          · exact .inr h
        · intro vs h; unfold Reps at h ⊢; exact h
        · intro d l ih1 ih2 vs h
          unfold Reps at h ⊢
          obtain ⟨v, q, e, h1, h2⟩ := h
          exact ⟨v, q, e, ih1 v h1, ih2 q h2⟩
      have alls : ∀ (l : List D) (vs : List V), Reps K F (p :: Xi) rho H l vs → Reps K F Xi (rho ++ [some p]) H l vs := by
        intro l
        induction l with
        | nil => intro vs h; unfold Reps at h ⊢; exact h
        | cons d l ih =>
          intro vs h
          obtain ⟨v, q, rfl, h1, h2⟩ := h.cons_inv
          exact Reps.cons' (all.1 d v h1) (ih q h2)
      cases d with
      | lst l => obtain ⟨vs, e, r⟩ := c; exact ⟨vs, e, alls l vs r⟩
      | dK ks l => obtain ⟨vs, e, le, r⟩ := c; exact ⟨vs, e, le, alls l vs r⟩
      | dT ks l => obtain ⟨vs, e, le, r⟩ := c; exact ⟨vs, e, le, alls l vs r⟩
      | _ => exact c.elim
    have lenr : rho.length = h.length := rl.len
    have at_ : (rho ++ [some p])[h.length]? = some (some p) := by rw [← lenr]; simp
    refine ⟨rho ++ [some p], ⟨s.keep, ?_, ?_, ?_⟩, ⟨by simp [lenr], ?_, ?_, ?_⟩, ?_⟩
    · rw [List.length_append]; exact Nat.le_trans s.len (Nat.le_add_right _ _)
    · intro i hi
      rw [List.getElem?_append_left (Nat.lt_of_lt_of_le hi s.len)]
      exact s.pre i hi
    · intro a q
      rcases List.mem_append.mp q with q | q
      · exact s.new a q
      · have q' : a = p := by simpa using q
        subst q'
        exact .inr h0
    · intro i j a hi hj
      have key : ∀ i, (rho ++ [some p])[i]? = some (some a) → (i < rho.length ∧ rho[i]? = some (some a)) ∨ (i = rho.length ∧ a = p) := fun i hi => by
        by_cases hl : i < rho.length
        · rw [List.getElem?_append_left hl] at hi
          exact .inl ⟨hl, hi⟩
        · have hl2 : i < (rho ++ [some p]).length := (List.getElem?_eq_some_iff.mp hi).1
          rw [List.length_append] at hl2
          have hi2 : i = rho.length := by simp at hl2; omega
          subst hi2
          rw [List.getElem?_append_right (Nat.le_refl _)] at hi
          simp at hi
          exact .inr ⟨rfl, hi.symm⟩
      rcases key i hi with ⟨h1, h2⟩ | ⟨h1, h2⟩
      · rcases key j hj with ⟨h3, h4⟩ | ⟨h3, h4⟩
        · exact rl.inj i j a h2 h4
        · subst h4; exact absurd (List.mem_of_getElem? h2) np
      · rcases key j hj with ⟨h3, h4⟩ | ⟨h3, h4⟩
        · subst h2; exact absurd (List.mem_of_getElem? h4) np
        · rw [h1, h3]
    · intro a ha
      refine ⟨(rl.xi a (List.mem_cons_of_mem _ ha)).1, fun q => ?_⟩
      rcases List.mem_append.mp q with q | q
      · exact (rl.xi a (List.mem_cons_of_mem _ ha)).2 q
      · have q' : a = p := by simpa using q
        exact nx (by rw [← q']; exact ha)
    · intro i u eu
      by_cases hl : i < h.length
      · rw [List.getElem?_append_left hl] at eu
        rcases rl.obj i u eu with ⟨z1, z2⟩ | ⟨a, hq, e1, e2, c2, z⟩
        · exact .inl ⟨z1, by rw [List.getElem?_append_left (by rw [lenr]; exact hl)]; exact z2⟩
        · exact .inr ⟨a, hq, by rw [List.getElem?_append_left (by rw [lenr]; exact hl)]; exact e1, e2, drop c2, z⟩
      · have hl2 : i < (h ++ [o]).length := (List.getElem?_eq_some_iff.mp eu).1
        rw [List.length_append] at hl2
        have hi2 : i = h.length := by simp at hl2; omega
        subst hi2
        rw [List.getElem?_append_right (Nat.le_refl _)] at eu
        simp at eu
        subst eu
        exact .inr ⟨p, ho, at_, hp, drop c, by rw [← lenr]; exact c.ok⟩
    · unfold Rep
      exact ⟨p, rfl, .inl at_⟩
/-- a new thing -/
theorem alc_new {m : Bool} {o r : D} {ho : HO} {Q : VK} (rl : Rl K F Xi rho h H) (c : Cont K F Xi rho H o ho) (e : alc m o h = .ok (r, h')) (q : Post K F Xi rho H r h' Q) : ∀ p, H p = none → Q (.ref p) (upd H p ho) := fun p hp => by
  obtain ⟨rho', s, rl2, r2⟩ := alc_at (rho0 := rho) (H0 := H) (rl.hide (o := ho) hp) (rl.fresh hp).2 upd_same ((c.xi hp).mo (sp_new hp).mo) e (sp_new hp) hp
  exact q _ _ rho' s rl2 r2
theorem alc_plain {m : Bool} {o : D} (io : isObj o = false) : alc m o h = .ok (o, h) := by
  unfold alc
  rw [io, Bool.and_false]
  rfl
/-- a new tuple -/
theorem tup_new {l : List D} {vs : List V} {Q : VK} (rl : Rl K F Xi rho h H) (r : Reps K F Xi rho H l vs) (q : Post K F Xi rho H (.tup l) h Q) : ∀ p, H p = none → Q (.ref p) (upd H p (.tup vs)) := fun p hp => by
  refine q _ _ rho (sp_new hp) (rl.new hp) ?_
  unfold Rep
  exact ⟨p, vs, rfl, upd_same, (rl.fresh hp).1, (rl.fresh hp).2, Reps.mo (sp_new hp).mo l vs r⟩
/-- a thing of the small heap, by its ref -/
theorem Rl.thing (rl : Rl K F Xi rho h H) {i : Nat} {o : D} {v : V} (e : h[i]? = some o) (io : isObj o = true) (r : Rep K F Xi rho H (.ref i) v) : ∃ a ho, v = .ref a ∧ rho[i]? = some (some a) ∧ H a = some ho ∧ Cont K F Xi rho H o ho := by
  unfold Rep at r
  obtain ⟨a, ev, r⟩ := r
  rcases rl.obj i o e with ⟨z, _⟩ | ⟨a', ho, e1, e2, c, _⟩
  · subst z; cases io
  · rcases r with r | r
    · rw [e1] at r; cases r
      exact ⟨a, ho, ev, e1, e2, c⟩
    · rw [e1] at r; cases r
/-- a thing is changed -/
theorem put_obj {i : Nat} {o o' r : D} {ho' : HO} {a : Addr} {w : V} {Q : VK} (rl : Rl K F Xi rho h H) (e : h[i]? = some o) (ea : rho[i]? = some (some a)) (c : Cont K F Xi rho H o' ho') (z : o'.okR i = true)
    (rw' : Rep K F Xi rho H r w) (q : Post K F Xi rho H r (h.set i o') Q) : Q w (upd H a ho') := by
  have ha : some a ∈ rho := List.mem_of_getElem? ea
  have sp : Sp rho H rho (upd H a ho') := ⟨fun b u eb nb => by rw [upd_ne (fun x => nb (by rw [x]; exact ha))]; exact eb, Nat.le_refl _, fun _ _ => .inl rfl, fun _ q => .inl q⟩
  have hi : i < h.length := (List.getElem?_eq_some_iff.mp e).1
  refine q _ _ rho sp ⟨by rw [List.length_set]; exact rl.len, rl.inj, fun b hb => ⟨?_, (rl.xi b hb).2⟩, fun j u eu => ?_⟩ (Rep.mo sp.mo _ _ rw')
  · by_cases x : b = a
    · subst x; exact absurd ha (rl.xi b hb).2
    · rw [upd_ne x]; exact (rl.xi b hb).1
  · by_cases hj : j = i
    · subst hj
      rw [List.getElem?_set_self hi] at eu
      cases eu
      exact .inr ⟨a, ho', ea, upd_same, c.mo sp.mo, z⟩
    · rw [List.getElem?_set_ne (Ne.symm hj)] at eu
      rcases rl.obj j u eu with x | ⟨b, hb, e1, e2, c2, z2⟩
      · exact .inl x
      · refine .inr ⟨b, hb, e1, ?_, c2.mo sp.mo, z2⟩
        rw [upd_ne fun x => hj (rl.inj j i a (by rw [← x]; exact e1) ea)]
        exact e2
end
end Mi
/-! Mi over the layer: operators by values. -/
namespace Mi
open PySem PySem.Spec PyProof.Rows L2
section
variable {X : Cx} {F : Nat → Option Addr} {Xi : List Addr} {rho : Adrs} {H : Hp} {h : MH}

theorem mulOk_spec {i j : Int} (e : mulOk i j = true) : IntMulOk i j := by
  unfold mulOk at e
  simp only [Bool.or_eq_true, Bool.and_eq_true, decide_eq_true_eq] at e
  rcases e with e | e
  · exact CMul.ok e
  · exact .of_bits e.1 e.2
theorem op_mulA : OpR X (binaryOp .Mult) (rI (fun i j => mulOk i j = true) fun i j => .int (i * j)) := opI fun _ _ _ _ _ _ _ hc q => mul_int q (mulOk_spec hc)
theorem op_fdivA : OpR X (binaryOp .FloorDiv) (rI (fun i j => divOk i j = true) fun i j => .int (i / j)) := opI fun i j _ _ _ _ _ hc q => by
  unfold divOk at hc
  simp only [Bool.and_eq_true, decide_eq_true_eq, Bool.not_eq_true'] at hc
  have h1 : 0 < j := hc.1
  refine floordiv_int (by omega) ?_ (.inl hc.2)
  rw [Int.fdiv_eq_ediv_of_nonneg i (by omega)]
  exact q
theorem powOk_spec {i j : Int} (e : powOk i j = true) : CPow i j := by
  unfold powOk at e
  simp only [Bool.and_eq_true, decide_eq_true_eq] at e
  exact ⟨e.1.1, e.1.2, e.2⟩
theorem Reps.rep {K : PySem.W.Frag} {l : List D} {vs : List V} (r : Reps K F Xi rho H l vs) : ∀ n : Nat, Reps K F Xi rho H (List.replicate n l).flatten (List.replicate n vs).flatten
  | 0 => Reps.nil'
  | n + 1 => by
    rw [List.replicate_succ, List.replicate_succ, List.flatten_cons, List.flatten_cons]
    exact Reps.append' r (Reps.rep r n)
def opOf : BOp → Operator
  | .add => .Add
  | .sub => .Sub
  | .mul => .Mult
  | .fdiv => .FloorDiv
  | .mod => .Mod
  | .pow => .Pow
def rB (K : PySem.W.Frag) (F : Nat → Option Addr) (o : BOp) (m : Bool) : R2 := fun x y H Q => ∃ Xi rho h d e r h', Rl K F Xi rho h H ∧ Rep K F Xi rho H d x ∧ Rep K F Xi rho H e y ∧
  (opt (binD o (deref h d) (deref h e)) fun z => alc m z h) = .ok (r, h') ∧ Post K F Xi rho H r h' Q
theorem post_int {K : PySem.W.Frag} {m : Bool} {i : Int} {r : D} {h' : MH} {Q : VK} (rl : Rl K F Xi rho h H) (e : alc m (.int i) h = .ok (r, h')) (q : Post K F Xi rho H r h' Q) : Q (.int i) H := by
  rw [alc_plain rfl] at e
  cases e
  exact q.here rl (by unfold Rep; rfl)
theorem post_bl {K : PySem.W.Frag} {i : Bool} {Q : VK} (rl : Rl K F Xi rho h H) (q : Post K F Xi rho H (.bl i) h Q) : Q (.bl i) H := q.here rl (by unfold Rep; rfl)
theorem op_bin (o : BOp) (m : Bool) : OpR X (binaryOp (opOf o)) (rB X.K F o m) := by
  intro pins s σ H x y v u Q I rx ry hw
  obtain ⟨Xi, rho, h, d, e, r, h', rl, rd, re, ev, q⟩ := hw
  have xd := rl.rx rd
  have xe := rl.rx re
  obtain ⟨z, eb, ev⟩ := opt_inv ev
  generalize deref h d = d' at xd eb
  generalize deref h e = e' at xe eb
  cases o with
  | add =>
    cases d' with
    | int i =>
      cases e' with
      | int j =>
        cases eb
        cases (xd.rep rfl).eint
        cases (xe.rep rfl).eint
        exact op_add pins s σ H _ _ v u Q I rx ry ⟨i, j, rfl, rfl, post_int rl ev q⟩
      | _ => cases eb
    | str a =>
      cases e' with
      | str b =>
        have eb' : (if a.length + b.length ≤ szL then some (D.str (a ++ b)) else none) = some z := eb
        split at eb'
        · rename_i hz
          cases eb'
          rw [alc_plain rfl] at ev
          cases ev
          cases (xd.rep rfl).estr
          cases (xe.rep rfl).estr
          exact op_add_str pins s σ H _ _ v u Q I rx ry ⟨a, b, rfl, rfl, hz, q.here rl (by unfold Rep; rfl)⟩
        · cases eb'
      | _ => cases eb
    | tup a =>
      cases e' with
      | tup b =>
        have eb' : (if a.length + b.length ≤ szL then some (D.tup (a ++ b)) else none) = some z := eb
        split at eb'
        · rename_i hz
          cases eb'
          rw [alc_plain rfl] at ev
          cases ev
          have rd' := xd.rep rfl
          have re' := xe.rep rfl
          obtain ⟨pa, xs, rfl, ta, qa⟩ := rd'.etup
          obtain ⟨pb, ys, rfl, tb, qb⟩ := re'.etup
          refine op_catA pins s σ H _ _ v u Q I rx ry ⟨pa, pb, xs, ys, rfl, rfl, .of ta, .of tb, by rw [qa.length, qb.length]; exact hz, fun e0 => ?_, fun _ e0 => ?_, fun _ _ => tup_new rl (qa.append' qb) q⟩
          · subst e0
            have a0 : a = [] := List.eq_nil_of_length_eq_zero (by rw [← qa.length]; rfl)
            subst a0
            exact q.here rl re'
          · subst e0
            have b0 : b = [] := List.eq_nil_of_length_eq_zero (by rw [← qb.length]; rfl)
            subst b0
            rw [List.append_nil] at q
            exact q.here rl rd'
        · cases eb'
      | _ => cases eb
    | lst a =>
      cases e' with
      | lst b =>
        have eb' : (if a.length + b.length ≤ szL then some (D.lst (a ++ b)) else none) = some z := eb
        split at eb'
        · rename_i hz
          cases eb'
          obtain ⟨pa, xs, rfl, ta, qa⟩ := xd.lst
          obtain ⟨pb, ys, rfl, tb, qb⟩ := xe.lst
          exact op_cat pins s σ H _ _ v u Q I rx ry ⟨pa, pb, xs, ys, rfl, rfl, ta, tb, by rw [qa.length, qb.length]; exact hz, alc_new rl (Cont.l (qa.append' qb)) ev q⟩
        · cases eb'
      | _ => cases eb
    | _ => cases eb
  | sub =>
    cases d' with
    | int i =>
      cases e' with
      | int j =>
        cases eb
        cases (xd.rep rfl).eint
        cases (xe.rep rfl).eint
        exact op_sub pins s σ H _ _ v u Q I rx ry ⟨i, j, rfl, rfl, post_int rl ev q⟩
      | _ => cases eb
    | _ => cases eb
  | mul =>
    cases d' with
    | int i =>
      cases e' with
      | int j =>
        have eb' : (if mulOk i j = true then some (D.int (i * j)) else none) = some z := eb
        split at eb'
        · rename_i hz
          cases eb'
          cases (xd.rep rfl).eint
          cases (xe.rep rfl).eint
          exact op_mulA pins s σ H _ _ v u Q I rx ry ⟨i, j, rfl, rfl, hz, post_int rl ev q⟩
        · cases eb'
      | _ => cases eb
    | tup a =>
      cases e' with
      | int k =>
        have eb' : (if (decide (2 ≤ k) && decide (k ≤ 1000) && decide (a.length ≤ 1000) && !a.isEmpty) = true then some (D.tup (List.replicate k.toNat a).flatten) else none) = some z := eb
        split at eb'
        · rename_i hz
          simp only [Bool.and_eq_true, decide_eq_true_eq] at hz
          cases eb'
          rw [alc_plain rfl] at ev
          cases ev
          cases (xe.rep rfl).eint
          obtain ⟨pa, xs, rfl, ta, qa⟩ := (xd.rep rfl).etup
          refine op_repT pins s σ H _ _ v u Q I rx ry ⟨pa, k, xs, rfl, rfl, .of ta, fun e0 => ?_, hz.1.1.1, hz.1.1.2, by rw [qa.length]; exact hz.1.2, tup_new rl (qa.rep _) q⟩
          subst e0
          have a0 : a = [] := List.eq_nil_of_length_eq_zero (by rw [← qa.length]; rfl)
          rw [a0] at hz
          exact absurd hz.2 (by decide)
        · cases eb'
      | _ => cases eb
    | lst a =>
      cases e' with
      | int k =>
        have eb' : (if (decide (-(2 ^ 63) ≤ k) && decide (k < 2 ^ 63) && decide (a.length * k.toNat ≤ szL)) = true then some (D.lst (List.replicate k.toNat a).flatten) else none) = some z := eb
        split at eb'
        · rename_i hz
          simp only [Bool.and_eq_true, decide_eq_true_eq] at hz
          cases eb'
          cases (xe.rep rfl).eint
          obtain ⟨pa, xs, rfl, ta, qa⟩ := xd.lst
          exact op_rep pins s σ H _ _ v u Q I rx ry ⟨pa, k, xs, rfl, rfl, ta, hz.1.1, hz.1.2, by rw [qa.length]; exact hz.2, alc_new rl (Cont.l (qa.rep _)) ev q⟩
        · cases eb'
      | _ => cases eb
    | _ => cases eb
  | fdiv =>
    cases d' with
    | int i =>
      cases e' with
      | int j =>
        have eb' : (if divOk i j = true then some (D.int (i / j)) else none) = some z := eb
        split at eb'
        · rename_i hz
          cases eb'
          cases (xd.rep rfl).eint
          cases (xe.rep rfl).eint
          exact op_fdivA pins s σ H _ _ v u Q I rx ry ⟨i, j, rfl, rfl, hz, post_int rl ev q⟩
        · cases eb'
      | _ => cases eb
    | _ => cases eb
  | mod =>
    cases d' with
    | int i =>
      cases e' with
      | int j =>
        have eb' : (if decide (0 < j) = true then some (D.int (i % j)) else none) = some z := eb
        split at eb'
        · rename_i hz
          cases eb'
          cases (xd.rep rfl).eint
          cases (xe.rep rfl).eint
          exact op_mod pins s σ H _ _ v u Q I rx ry ⟨i, j, rfl, rfl, of_decide_eq_true hz, post_int rl ev q⟩
        · cases eb'
      | _ => cases eb
    | _ => cases eb
  | pow =>
    cases d' with
    | int i =>
      cases e' with
      | int j =>
        have eb' : (if powOk i j = true then some (D.int (i ^ j.toNat)) else none) = some z := eb
        split at eb'
        · rename_i hz
          cases eb'
          cases (xd.rep rfl).eint
          cases (xe.rep rfl).eint
          exact op_pow pins s σ H _ _ v u Q I rx ry ⟨i, j, rfl, rfl, powOk_spec hz, post_int rl ev q⟩
        · cases eb'
      | _ => cases eb
    | _ => cases eb
end
end Mi
/-! Mi over the layer: comparisons, truth, places, slices, by values. -/
namespace Mi
open PySem PySem.Spec PyProof.Rows L2
section
variable {X : Cx} {F : Nat → Option Addr} {Xi : List Addr} {rho : Adrs} {H : Hp} {h : MH} {K : PySem.W.Frag}
mutual
theorem dp_of : ∀ (d : D) (v : V) (p : PyData), d.toP = some p → Rep K F Xi rho H d v → Dp K H v p
  | .non, v, p, e, r => by
    unfold D.toP at e; cases e; cases r.enon; exact .non
  | .bl b, v, p, e, r => by
    unfold D.toP at e; cases e; cases r.ebl; exact .bl b
  | .int i, v, p, e, r => by
    unfold D.toP at e; cases e; cases r.eint; exact .int i
  | .str x, v, p, e, r => by
    unfold D.toP at e; cases e; cases r.estr; exact .str x
  | .tup l, v, p, e, r => by
    unfold D.toP at e
    obtain ⟨ps, e1, rfl⟩ := Option.map_eq_some_iff.mp e
    unfold Rep at r
    obtain ⟨a, vs, rfl, h, _, _, q⟩ := r
    exact .tup (.of h) (dp_all l vs ps e1 q)
  | .lst l, v, p, e, r => by
    unfold D.toP at e
    obtain ⟨ps, e1, rfl⟩ := Option.map_eq_some_iff.mp e
    unfold Rep at r
    obtain ⟨a, vs, rfl, h, _, _, q⟩ := r
    exact .lst (.of h) (dp_all l vs ps e1 q)
  | .dK _ _, v, p, e, r => by unfold D.toP at e; cases e
  | .dT _ _, v, p, e, r => by unfold D.toP at e; cases e
  | .ref _, v, p, e, r => by unfold D.toP at e; cases e
  | .fn _, v, p, e, r => by unfold D.toP at e; cases e
  | .scr _, v, p, e, r => by unfold D.toP at e; cases e
theorem dp_all : ∀ (l : List D) (vs : List V) (ps : List PyData), D.toPs l = some ps → Reps K F Xi rho H l vs → DpAll K H vs ps
  | [], vs, ps, e, r => by
    unfold D.toPs at e; cases e
    rw [r.nil_inv]; exact .nil
  | d :: l, vs, ps, e, r => by
    unfold D.toPs at e
    obtain ⟨p, e1, e2⟩ := Option.bind_eq_some_iff.mp e
    obtain ⟨q, e3, rfl⟩ := Option.map_eq_some_iff.mp e2
    obtain ⟨v, t, rfl, r1, r2⟩ := r.cons_inv
    exact .cons (dp_of d v p e1 r1) (dp_all l t q e3 r2)
end
theorem dp_rx {d : D} {v : V} {p : PyData} (e : d.toP = some p) (r : Rx K F Xi rho H d v) : Dp K H v p := by
  cases d with
  | lst l =>
    obtain ⟨a, vs, rfl, h, q⟩ := r.lst
    unfold D.toP at e
    obtain ⟨ps, e1, rfl⟩ := Option.map_eq_some_iff.mp e
    exact .lst (.of h) (dp_all l vs ps e1 q)
  | dK _ _ => unfold D.toP at e; cases e
  | dT _ _ => unfold D.toP at e; cases e
  | _ => exact dp_of _ v p e (r.rep rfl)
theorem op_eqP (hu : X.A.units + 200 < cLine) : OpR X (compareOp .Eq) (fun x y H Q => ∃ p q, Dp X.K H x p ∧ Dp X.K H y q ∧ dpOk p = true ∧ dpOk q = true ∧ Q (.bl (PyData.eqv p q)) H) := by
  intro pins s σ H x y v u Q I rx ry hw
  obtain ⟨p, q, hp, hq, op, oq, w⟩ := hw
  unfold dpOk at op oq
  simp only [Bool.and_eq_true, decide_eq_true_eq] at op oq
  obtain ⟨as, ra⟩ := Dp.reads I p x v hp rx
  obtain ⟨bs, rb⟩ := Dp.reads I q y u hq ry
  have hm : min p.depth q.depth ≤ p.depth := Nat.min_le_left _ _
  exact SeqAt.compareEq_reads ra rb op.1 oq.1 (by omega) ⟨.bl (PyData.eqv p q), H, I, rfl, w⟩
theorem op_neP (hu : X.A.units + 200 < cLine) : OpR X (compareOp .NotEq) (fun x y H Q => ∃ p q, Dp X.K H x p ∧ Dp X.K H y q ∧ dpOk p = true ∧ dpOk q = true ∧ Q (.bl (!PyData.eqv p q)) H) := by
  intro pins s σ H x y v u Q I rx ry hw
  obtain ⟨p, q, hp, hq, op, oq, w⟩ := hw
  unfold dpOk at op oq
  simp only [Bool.and_eq_true, decide_eq_true_eq] at op oq
  obtain ⟨as, ra⟩ := Dp.reads I p x v hp rx
  obtain ⟨bs, rb⟩ := Dp.reads I q y u hq ry
  have hm : min p.depth q.depth ≤ p.depth := Nat.min_le_left _ _
  exact SeqAt.compareNe_reads ra rb op.1 oq.1 (by omega) ⟨.bl (!PyData.eqv p q), H, I, rfl, w⟩
/-- x in a list or a tuple, by data -/
theorem op_inP (hu : X.A.units + 200 < cLine) (neg : Bool) : OpR X (compareOp (if neg then .NotIn else .In)) (fun x y H Q => ∃ p ps, Dp X.K H x p ∧ (Dp X.K H y (.list ps) ∨ Dp X.K H y (.tuple ps)) ∧ dpOk p = true ∧ dpOk (.list ps) = true ∧
    Q (.bl (if neg then !(ps.any fun z => PyData.eqv z p) else ps.any fun z => PyData.eqv z p)) H) := by
  intro pins s σ H x y v u Q I rx ry hw
  obtain ⟨p, ps, hp, hq, op, oq, w⟩ := hw
  unfold dpOk at op oq
  simp only [Bool.and_eq_true, decide_eq_true_eq, PyData.canLay0, PyData.depth] at op oq
  obtain ⟨as, ra⟩ := Dp.reads I p x v hp rx
  have hm : min (PyData.depthAll ps) p.depth ≤ p.depth := Nat.min_le_right _ _
  rcases hq with hq | hq
  · obtain ⟨bs, rb⟩ := Dp.reads I _ y u hq ry
    cases neg with
    | false => exact SeqAt.in_list_reads rb ra oq.1 op.1 (by omega) ⟨.bl _, H, I, rfl, w⟩
    | true => exact SeqAt.notIn_list_reads rb ra oq.1 op.1 (by omega) ⟨.bl _, H, I, rfl, w⟩
  · obtain ⟨bs, rb⟩ := Dp.reads I _ y u hq ry
    cases neg with
    | false => exact SeqAt.in_tuple_reads rb ra oq.1 op.1 (by omega) ⟨.bl _, H, I, rfl, w⟩
    | true => exact SeqAt.notIn_tuple_reads rb ra oq.1 op.1 (by omega) ⟨.bl _, H, I, rfl, w⟩

/-! ### dicts -/
theorem keyD_spec {d : D} {k : Key} {v : V} (e : keyD d = some k) (r : Rep K F Xi rho H d v) : v = kV k := by
  cases d with
  | int i => cases e; exact r.eint
  | str x => cases e; exact r.estr
  | _ => cases e
theorem keyDs_spec : ∀ {l : List D} {ks : List Key} {vs : List V}, keyDs l = some ks → Reps K F Xi rho H l vs → vs = ks.map kV
  | [], ks, vs, e, r => by cases e; exact r.nil_inv
  | d :: l, ks, vs, e, r => by
    obtain ⟨v, t, rfl, r1, r2⟩ := r.cons_inv
    unfold keyDs at e
    obtain ⟨k, e1, e2⟩ := Option.bind_eq_some_iff.mp e
    obtain ⟨q, e3, rfl⟩ := Option.map_eq_some_iff.mp e2
    rw [keyD_spec e1 r1, keyDs_spec e3 r2]
    rfl
theorem keyD_obj {d : D} {k : Key} (e : keyD d = some k) : isObj d = false := by cases d <;> first | rfl | cases e
theorem tkeyD_spec {d : D} {k : List Key} {v : V} (e : tkeyD d = some k) (r : Rep K F Xi rho H d v) : ∃ b, v = .ref b ∧ H b = some (.tup (k.map kV)) := by
  cases d with
  | tup l =>
    obtain ⟨a, vs, rfl, h, q⟩ := r.etup
    rw [keyDs_spec e q] at h
    exact ⟨a, rfl, h⟩
  | _ => cases e
theorem tkeyD_obj {d : D} {k : List Key} (e : tkeyD d = some k) : isObj d = false := by cases d <;> first | rfl | cases e
def ORep (K : PySem.W.Frag) (F : Nat → Option Addr) (Xi : List Addr) (rho : Adrs) (H : Hp) (o : Option D) (r : Option V) : Prop :=
  match o with
  | some d => ∃ v, r = some v ∧ Rep K F Xi rho H d v
  | none => r = none
section
variable {κ : Type} [DecidableEq κ]
theorem lk_zip : ∀ {ks : List κ} {l : List D} {vs : List V} (k : κ), ks.length = vs.length → Reps K F Xi rho H l vs → ORep K F Xi rho H (lkD ks l k) (valV (ks.zip vs) k)
  | [], l, vs, k, e, r => by
    have : lkD ([] : List κ) l k = none := by cases l <;> rfl
    rw [this]
    rfl
  | a :: ks, [], vs, k, e, r => by
    rw [r.nil_inv] at e; cases e
  | a :: ks, d :: l, vs, k, e, r => by
    obtain ⟨v, t, rfl, r1, r2⟩ := r.cons_inv
    unfold lkD
    by_cases q : a = k
    · rw [if_pos q]
      exact ⟨v, by rw [List.zip_cons_cons]; exact valV_pos q, r1⟩
    · rw [if_neg q]
      have ih := lk_zip (ks := ks) (l := l) (vs := t) k (by simpa using e) r2
      rw [List.zip_cons_cons, valV_neg (p := (a, v)) q]
      exact ih
theorem put_zip (k : κ) {d : D} {v : V} (rv : Rep K F Xi rho H d v) : ∀ {ks : List κ} {l : List D} {vs : List V}, ks.length = vs.length → Reps K F Xi rho H l vs →
    ∃ ws, putK (ks.zip vs) k v = (putKs ks k).zip ws ∧ (putKs ks k).length = ws.length ∧ Reps K F Xi rho H (putVs ks l k d) ws := by
  intro ks l vs e r
  have any_ : ((ks.zip vs).any fun kv => decide (kv.1 = k)) = decide (k ∈ ks) := by
    clear r
    induction ks generalizing vs with
    | nil => rfl
    | cons a ks ih =>
      cases vs with
      | nil => cases e
      | cons b vs =>
        rw [List.zip_cons_cons, List.any_cons, ih (by simpa using e)]
        by_cases q : a = k
        · subst q; simp
        · have q2 : ¬ k = a := fun z => q z.symm
          simp [q, q2]
  unfold putK putKs putVs
  rw [any_]
  by_cases hk : k ∈ ks
  · rw [if_pos (decide_eq_true hk), if_pos hk, if_pos hk]
    clear any_ hk
    induction ks generalizing l vs with
    | nil =>
      cases vs with
      | nil => exact ⟨[], rfl, rfl, by
          have : setD ([] : List κ) l k d = l := by cases l <;> rfl
          rw [this]; exact r⟩
      | cons b vs => cases e
    | cons a ks ih =>
      cases vs with
      | nil => cases e
      | cons b vs =>
        cases l with
        | nil => cases r.nil_inv
        | cons c l =>
          obtain ⟨v0, t, ee, r1, r2⟩ := r.cons_inv
          cases ee
          obtain ⟨ws, w1, w2, w3⟩ := ih (l := l) (vs := vs) (by simpa using e) r2
          unfold setD
          by_cases q : a = k
          · refine ⟨v :: ws, ?_, by simpa using w2, ?_⟩
            · rw [List.zip_cons_cons, List.map_cons, List.zip_cons_cons, w1, if_pos q]
            · rw [if_pos q]; exact Reps.cons' rv w3
          · refine ⟨b :: ws, ?_, by simpa using w2, ?_⟩
            · rw [List.zip_cons_cons, List.map_cons, List.zip_cons_cons, w1, if_neg q]
            · rw [if_neg q]; exact Reps.cons' r1 w3
  · rw [if_neg (by simpa using hk), if_neg hk, if_neg hk]
    refine ⟨vs ++ [v], ?_, by simp [e], r.append' (Reps.cons' rv Reps.nil')⟩
    rw [List.zip_append e]
    rfl
end
/-- what a dict holds -/
theorem getKD_spec {d k : D} {o : Option D} {x y : V} (e : getKD d k = some o) (rx : Rx K F Xi rho H d x) (ry : Rx K F Xi rho H k y) :
    ∃ a r, x = .ref a ∧ DGet H a y r ∧ ORep K F Xi rho H o r := by
  cases d with
  | dK ks l =>
    obtain ⟨a, vs, rfl, h, le, q⟩ := rx.dK
    have e' : ((keyD k).map fun z => lkD ks l z) = some o := e
    obtain ⟨z, e1, rfl⟩ := Option.map_eq_some_iff.mp e'
    have ry' := keyD_spec e1 (ry.rep (keyD_obj e1))
    subst ry'
    exact ⟨a, _, rfl, DGet.k h, lk_zip z le q⟩
  | dT ks l =>
    obtain ⟨a, vs, rfl, h, le, q⟩ := rx.dT
    have e' : ((tkeyD k).map fun z => lkD ks l z) = some o := e
    obtain ⟨z, e1, rfl⟩ := Option.map_eq_some_iff.mp e'
    obtain ⟨b, rfl, hb⟩ := tkeyD_spec e1 (ry.rep (tkeyD_obj e1))
    exact ⟨a, _, rfl, DGet.t h hb, lk_zip z le q⟩
  | _ => cases e
/-- d[k] = v -/
theorem putKD_spec {o k d o' : D} {a : Addr} {ho : HO} {y v : V} (e : putKD o k d = some o') (ha : H a = some ho) (c : Cont K F Xi rho H o ho) (ry : Rx K F Xi rho H k y) (rv : Rep K F Xi rho H d v) :
    ∃ ho', DPut H a y v (upd H a ho') ∧ Cont K F Xi rho H o' ho' ∧ isObj o = true := by
  cases o with
  | dK ks l =>
    have e' : (if ks.length < szL then (keyD k).map fun x => D.dK (putKs ks x) (putVs ks l x d) else none) = some o' := e
    split at e'
    · rename_i hz
      obtain ⟨z, e1, rfl⟩ := Option.map_eq_some_iff.mp e'
      obtain ⟨vs, rfl, le, q⟩ := c
      have ry' := keyD_spec e1 (ry.rep (keyD_obj e1))
      subst ry'
      obtain ⟨ws, w1, w2, w3⟩ := put_zip z rv le q
      refine ⟨_, DPut.k ha ?_, ?_, rfl⟩
      · rw [List.length_zip, le, Nat.min_self, ← le]; exact hz
      · rw [w1]; exact Cont.k w2 w3
    · cases e'
  | dT ks l =>
    have e' : (if ks.length < szL then (tkeyD k).map fun x => D.dT (putKs ks x) (putVs ks l x d) else none) = some o' := e
    split at e'
    · rename_i hz
      obtain ⟨z, e1, rfl⟩ := Option.map_eq_some_iff.mp e'
      obtain ⟨vs, rfl, le, q⟩ := c
      obtain ⟨b, rfl, hb⟩ := tkeyD_spec e1 (ry.rep (tkeyD_obj e1))
      obtain ⟨ws, w1, w2, w3⟩ := put_zip z rv le q
      refine ⟨_, DPut.t ha hb ?_, ?_, rfl⟩
      · rw [List.length_zip, le, Nat.min_self, ← le]; exact hz
      · rw [w1]; exact Cont.t w2 w3
    · cases e'
  | _ => cases e

/-! ### comparisons -/
def cmpOf : COp → CmpOp
  | .eq => .Eq
  | .ne => .NotEq
  | .lt => .Lt
  | .le => .LtE
  | .gt => .Gt
  | .ge => .GtE
  | .is => .Is
  | .isnot => .IsNot
  | .inn => .In
  | .notin => .NotIn
def rC (K : PySem.W.Frag) (F : Nat → Option Addr) (o : COp) : R2 := fun x y H Q => ∃ Xi rho d e t, Rx K F Xi rho H d x ∧ Rx K F Xi rho H e y ∧ cmpD o d e = some t ∧ Q (.bl t) H
theorem dpOk_bool {a b : Bool} : dpOk (.bool a) = true := by unfold dpOk; cases a <;> decide
theorem eqD_spec {d e : D} {t : Bool} {x y : V} (q : eqD d e = some t) (rx : Rx K F Xi rho H d x) (ry : Rx K F Xi rho H e y) :
    (∃ i j, x = .int i ∧ y = .int j ∧ t = decide (i = j)) ∨ (∃ i j, x = .str i ∧ y = .str j ∧ t = decide (i = j)) ∨ (∃ i j, x = .bl i ∧ y = .bl j ∧ t = decide (i = j)) ∨
    ∃ p q, Dp K H x p ∧ Dp K H y q ∧ dpOk p = true ∧ dpOk q = true ∧ t = PyData.eqv p q := by
  have gen : ∀ {d e : D}, Rx K F Xi rho H d x → Rx K F Xi rho H e y → (match d.toP, e.toP with
    | some p, some q => if dpOk p && dpOk q then some (PyData.eqv p q) else none
    | _, _ => none) = some t → ∃ p q, Dp K H x p ∧ Dp K H y q ∧ dpOk p = true ∧ dpOk q = true ∧ t = PyData.eqv p q := fun {d e} rx ry q => by
    cases h1 : d.toP with
    | none => rw [h1] at q; cases q
    | some p =>
      cases h2 : e.toP with
      | none => rw [h1, h2] at q; cases q
      | some p2 =>
        rw [h1, h2] at q
        have q' : (if dpOk p && dpOk p2 then some (PyData.eqv p p2) else none) = some t := q
        split at q'
        · rename_i hz
          rw [Bool.and_eq_true] at hz
          exact ⟨p, p2, dp_rx h1 rx, dp_rx h2 ry, hz.1, hz.2, (Option.some.inj q').symm⟩
        · cases q'
  cases d with
  | int i =>
    cases e with
    | int j =>
      cases q
      exact .inl ⟨i, j, (rx.rep rfl).eint, (ry.rep rfl).eint, rfl⟩
    | _ => exact .inr (.inr (.inr (gen rx ry q)))
  | str i =>
    cases e with
    | str j =>
      cases q
      exact .inr (.inl ⟨i, j, (rx.rep rfl).estr, (ry.rep rfl).estr, rfl⟩)
    | _ => exact .inr (.inr (.inr (gen rx ry q)))
  | bl i =>
    cases e with
    | bl j =>
      cases q
      exact .inr (.inr (.inl ⟨i, j, (rx.rep rfl).ebl, (ry.rep rfl).ebl, rfl⟩))
    | _ => exact .inr (.inr (.inr (gen rx ry q)))
  | _ => exact .inr (.inr (.inr (gen rx ry q)))
theorem isNon_spec {d : D} {x : V} (rx : Rx K F Xi rho H d x) : decide (x = .non) = isNon d := by
  cases d with
  | non => rw [(rx.rep rfl).enon]; rfl
  | bl b => rw [(rx.rep rfl).ebl]; rfl
  | int b => rw [(rx.rep rfl).eint]; rfl
  | str b => rw [(rx.rep rfl).estr]; rfl
  | tup l => obtain ⟨a, vs, rfl, _⟩ := (rx.rep rfl).etup; rfl
  | lst l => obtain ⟨a, vs, rfl, _⟩ := rx.lst; rfl
  | dK ks l => obtain ⟨a, vs, rfl, _⟩ := rx.dK; rfl
  | dT ks l => obtain ⟨a, vs, rfl, _⟩ := rx.dT; rfl
  | scr l => obtain ⟨a, vs, rfl, _⟩ := (rx.rep rfl).escr; rfl
  | ref i =>
    have r := rx.rep rfl
    unfold Rep at r
    obtain ⟨a, rfl, _⟩ := r
    rfl
  | fn i =>
    have r := rx.rep rfl
    unfold Rep at r
    obtain ⟨a, rfl, _⟩ := r
    rfl
theorem anyEq_spec {d : D} {l : List D} {t : Bool} {x : V} {vs : List V} (q : anyEq d l = some t) (rx : Rx K F Xi rho H d x) (r : Reps K F Xi rho H l vs) :
    ∃ p ps, Dp K H x p ∧ DpAll K H vs ps ∧ dpOk p = true ∧ dpOk (.list ps) = true ∧ t = ps.any fun z => PyData.eqv z p := by
  unfold anyEq at q
  cases h1 : d.toP with
  | none => rw [h1] at q; cases q
  | some p =>
    cases h2 : D.toPs l with
    | none => rw [h1, h2] at q; cases q
    | some ps =>
      rw [h1, h2] at q
      have q' : (if dpOk p && dpOk (.list ps) then some (ps.any fun z => PyData.eqv z p) else none) = some t := q
      split at q'
      · rename_i hz
        rw [Bool.and_eq_true] at hz
        exact ⟨p, ps, dp_rx h1 rx, dp_all l vs ps h2 r, hz.1, hz.2, (Option.some.inj q').symm⟩
      · cases q'
theorem op_inM (hu : X.A.units + 200 < cLine) (neg : Bool) : OpR X (compareOp (if neg then .NotIn else .In)) (fun x y H Q => ∃ Xi rho d e t, Rx X.K F Xi rho H d x ∧ Rx X.K F Xi rho H e y ∧ inD d e = some t ∧ Q (.bl (if neg then !t else t)) H) := by
  intro pins s σ H x y v u Q I rx ry hw
  obtain ⟨Xi, rho, d, e, t, xd, xe, q, w⟩ := hw
  have hu1 : X.A.units + 1 < cLine := by omega
  have dict : ∀ {e : D}, Rx X.K F Xi rho H e y → (getKD e d).map (·.isSome) = some t → wpAny (model X.prog X.w) X.A (compareOp (if neg then CmpOp.NotIn else .In) v u) (EP X pins σ Q) X.xe s := fun {e} xe q => by
    obtain ⟨o, e1, e2⟩ := Option.map_eq_some_iff.mp q
    obtain ⟨a, r, ey, g, m⟩ := getKD_spec e1 xe xd
    subst ey
    have es : r.isSome = t := by
      cases o with
      | some z => obtain ⟨w, hw, _⟩ := m; rw [hw, ← e2]; rfl
      | none => rw [show r = none from m, ← e2]; rfl
    obtain rfl : u = Value.ref a := ry
    cases neg with
    | false => exact d_in hu1 I g rx fun s' I' => ⟨.bl _, H, I', rfl, by rw [es]; exact w⟩
    | true => exact d_notIn hu1 I g rx fun s' I' => ⟨.bl _, H, I', rfl, by rw [es]; exact w⟩
  cases e with
  | lst l =>
    obtain ⟨a, vs, rfl, h, r⟩ := xe.lst
    obtain ⟨p, ps, w1, w2, w3, w4, rfl⟩ := anyEq_spec q xd r
    exact op_inP hu neg pins s σ H x _ v u Q I rx ry ⟨p, ps, w1, .inl (.lst (.of h) w2), w3, w4, w⟩
  | tup l =>
    obtain ⟨a, vs, rfl, h, r⟩ := (xe.rep rfl).etup
    obtain ⟨p, ps, w1, w2, w3, w4, rfl⟩ := anyEq_spec q xd r
    exact op_inP hu neg pins s σ H x _ v u Q I rx ry ⟨p, ps, w1, .inr (.tup (.of h) w2), w3, w4, w⟩
  | dK ks l => exact dict xe q
  | dT ks l => exact dict xe q
  | _ => cases q
theorem op_cmp (hu : X.A.units + 200 < cLine) (o : COp) : OpR X (compareOp (cmpOf o)) (rC X.K F o) := by
  intro pins s σ H x y v u Q I rx ry hw
  obtain ⟨Xi, rho, d, e, t, xd, xe, q, w⟩ := hw
  have two : ∀ {f : Int → Int → Bool} {cop : CmpOp}, (OpR X (compareOp cop) (rI0 fun i j => .bl (f i j))) → (match d, e with
      | .int i, .int j => some (f i j)
      | _, _ => none) = some t → wpAny (model X.prog X.w) X.A (compareOp cop v u) (EP X pins σ Q) X.xe s := fun {f cop} op q => by
    cases d with
    | int i =>
      cases e with
      | int j =>
        cases q
        exact op pins s σ H x y v u Q I rx ry ⟨i, j, (xd.rep rfl).eint, (xe.rep rfl).eint, w⟩
      | _ => cases q
    | _ => cases q
  cases o with
  | eq =>
    rcases eqD_spec q xd xe with ⟨i, j, rfl, rfl, rfl⟩ | ⟨i, j, rfl, rfl, rfl⟩ | ⟨i, j, rfl, rfl, rfl⟩ | ⟨p, p2, h1, h2, h3, h4, rfl⟩
    · refine op_eq pins s σ H _ _ v u Q I rx ry ⟨rfl, ?_⟩
      rw [show decide (V.int i = V.int j) = decide (i = j) by rw [dec_int]; exact Bool.beq_eq_decide_eq i j]
      exact w
    · refine op_eq pins s σ H _ _ v u Q I rx ry ⟨rfl, ?_⟩
      rw [show decide (V.str i = V.str j) = decide (i = j) by rw [dec_str]; exact Bool.beq_eq_decide_eq i j]
      exact w
    · refine op_eq pins s σ H _ _ v u Q I rx ry ⟨rfl, ?_⟩
      rw [show decide (V.bl i = V.bl j) = decide (i = j) by rw [dec_bl]; exact Bool.beq_eq_decide_eq i j]
      exact w
    · exact op_eqP hu pins s σ H _ _ v u Q I rx ry ⟨p, p2, h1, h2, h3, h4, w⟩
  | ne =>
    obtain ⟨t', q', rfl⟩ := Option.map_eq_some_iff.mp (show (eqD d e).map (!·) = some t from q)
    rcases eqD_spec q' xd xe with ⟨i, j, rfl, rfl, rfl⟩ | ⟨i, j, rfl, rfl, rfl⟩ | ⟨i, j, rfl, rfl, rfl⟩ | ⟨p, p2, h1, h2, h3, h4, rfl⟩
    · refine op_ne pins s σ H _ _ v u Q I rx ry ⟨rfl, ?_⟩
      rw [show decide (V.int i = V.int j) = decide (i = j) by rw [dec_int]; exact Bool.beq_eq_decide_eq i j]
      exact w
    · refine op_ne pins s σ H _ _ v u Q I rx ry ⟨rfl, ?_⟩
      rw [show decide (V.str i = V.str j) = decide (i = j) by rw [dec_str]; exact Bool.beq_eq_decide_eq i j]
      exact w
    · refine op_ne pins s σ H _ _ v u Q I rx ry ⟨rfl, ?_⟩
      rw [show decide (V.bl i = V.bl j) = decide (i = j) by rw [dec_bl]; exact Bool.beq_eq_decide_eq i j]
      exact w
    · exact op_neP hu pins s σ H _ _ v u Q I rx ry ⟨p, p2, h1, h2, h3, h4, w⟩
  | lt => exact two op_lt (by cases d <;> first | (cases e <;> first | exact q | cases q) | cases q)
  | le => exact two op_le (by cases d <;> first | (cases e <;> first | exact q | cases q) | cases q)
  | gt => exact two op_gt (by cases d <;> first | (cases e <;> first | exact q | cases q) | cases q)
  | ge => exact two op_ge (by cases d <;> first | (cases e <;> first | exact q | cases q) | cases q)
  | is =>
    have non_ : e = .non → cmpD .is d e = some (isNon d) := fun e0 => by subst e0; cases d <;> rfl
    cases e with
    | non =>
      rw [non_ rfl] at q
      cases q
      refine op_isN pins s σ H _ _ v u Q I rx ry ⟨(xe.rep rfl).enon, ?_⟩
      rw [isNon_spec xd]; exact w
    | bl b =>
      cases d with
      | bl a =>
        cases q
        exact op_isBl pins s σ H _ _ v u Q I rx ry ⟨a, b, (xd.rep rfl).ebl, (xe.rep rfl).ebl, w⟩
      | _ => cases q
    | _ => cases d <;> cases q
  | isnot =>
    have non_ : e = .non → cmpD .isnot d e = some (!isNon d) := fun e0 => by subst e0; cases d <;> rfl
    cases e with
    | non =>
      rw [non_ rfl] at q
      cases q
      refine op_notN pins s σ H _ _ v u Q I rx ry ⟨(xe.rep rfl).enon, ?_⟩
      rw [isNon_spec xd]; exact w
    | bl b =>
      cases d with
      | bl a =>
        cases q
        exact op_notBl pins s σ H _ _ v u Q I rx ry ⟨a, b, (xd.rep rfl).ebl, (xe.rep rfl).ebl, w⟩
      | _ => cases q
    | _ => cases d <;> cases q
  | inn => exact op_inM hu false pins s σ H x y v u Q I rx ry ⟨Xi, rho, d, e, t, xd, xe, by cases d <;> exact q, w⟩
  | notin =>
    obtain ⟨t', q', rfl⟩ := Option.map_eq_some_iff.mp (show (inD d e).map (!·) = some t by cases d <;> exact q)
    exact op_inM hu true pins s σ H x y v u Q I rx ry ⟨Xi, rho, d, e, t', xd, xe, q', w⟩
end
end Mi
/-! Mi over the layer: truth, places, slices, built-ins, by values. -/
namespace Mi
open PySem PySem.Spec PyProof.Rows L2
section
variable {X : Cx} {F : Nat → Option Addr} {Xi : List Addr} {rho : Adrs} {H : Hp} {h : MH} {K : PySem.W.Frag}
theorem emp_eq {l : List D} {vs : List V} (r : Reps K F Xi rho H l vs) : vs.isEmpty = l.isEmpty := by
  have e := r.length
  cases l <;> cases vs <;> first | rfl | cases e
theorem tru_spec {d : D} {t : Bool} {x : V} (e : truD d = some t) (rx : Rx K F Xi rho H d x) : TruV K x H t := by
  cases d with
  | non => cases e; rw [(rx.rep rfl).enon]; rfl
  | bl b => cases e; rw [(rx.rep rfl).ebl]; rfl
  | int b => cases e; rw [(rx.rep rfl).eint]; rfl
  | tup l =>
    cases e
    obtain ⟨a, vs, rfl, h, r⟩ := (rx.rep rfl).etup
    exact .inr (.inl ⟨vs, .of h, by rw [emp_eq r]⟩)
  | lst l =>
    cases e
    obtain ⟨a, vs, rfl, h, r⟩ := rx.lst
    exact .inl ⟨vs, .of h, by rw [emp_eq r]⟩
  | dK ks l =>
    cases e
    obtain ⟨a, vs, rfl, h, le, r⟩ := rx.dK
    refine .inr (.inr ⟨_, h, ?_⟩)
    cases ks <;> cases vs <;> first | rfl | cases le
  | _ => cases e
/-! ### places -/
theorem at_rep {l : List D} {vs : List V} {i : Int} {d : D} (e : atI l i = some d) (r : Reps K F Xi rho H l vs) : ∃ v, atI vs i = some v ∧ Rep K F Xi rho H d v := by
  unfold atI at e ⊢
  obtain ⟨j, e1, e2⟩ := Option.bind_eq_some_iff.mp e
  obtain ⟨v, w1, w2⟩ := r.get e2
  refine ⟨v, ?_, w2⟩
  rw [r.length, e1]
  exact w1
def rIxM (K : PySem.W.Frag) (F : Nat → Option Addr) : R2 := fun x y H Q => ∃ Xi rho d e z, Rx K F Xi rho H d x ∧ Rx K F Xi rho H e y ∧ ixD d e = some z ∧ ∀ v, Rep K F Xi rho H z v → Q v H
theorem ix_mi (hu : X.A.units + 200 < cLine) : IxR X (rIxM X.K F) := by
  intro value slice pins s σ H x y v u Q I rx ry hw hs
  obtain ⟨Xi, rho, d, e, z, xd, xe, q, w⟩ := hw
  have dict : (getKD d e).bind id = some z → wpAny (model X.prog X.w) X.A (subscriptTail value slice v u) (EP X pins σ Q) X.xe s := fun q => by
    obtain ⟨o, e1, e2⟩ := Option.bind_eq_some_iff.mp q
    cases (show o = some z from e2)
    obtain ⟨a, r, rfl, g, m⟩ := getKD_spec e1 xd xe
    obtain ⟨b, rfl, rb⟩ := m
    obtain rfl : v = Value.ref a := rx
    exact tail_any (dict_typeIs I g) PySem.slot_dict_getitem.lookup (d_getItem (by omega) I g ry fun w' s' I' r' => ⟨b, H, I', r', w b rb⟩) hs
  cases d with
  | tup l =>
    cases e with
    | int k =>
      obtain ⟨a, vs, rfl, h, r⟩ := (xd.rep rfl).etup
      obtain ⟨b, w1, w2⟩ := at_rep q r
      exact ix_tup value slice pins s σ H _ y v u Q I rx ry ⟨a, vs, k, b, rfl, (xe.rep rfl).eint, .of h, w1, w b w2⟩ hs
    | _ => cases q
  | lst l =>
    cases e with
    | int k =>
      obtain ⟨a, vs, rfl, h, r⟩ := xd.lst
      obtain ⟨b, w1, w2⟩ := at_rep q r
      exact ix_list value slice pins s σ H _ y v u Q I rx ry ⟨a, vs, k, b, rfl, (xe.rep rfl).eint, .of h, w1, w b w2⟩ hs
    | _ => cases q
  | dK ks l => exact dict q
  | dT ks l => exact dict q
  | _ => cases q
/-! ### slices -/
theorem cut_rep {l : List D} {vs : List V} (lo hi : Option Int) (r : Reps K F Xi rho H l vs) : Reps K F Xi rho H (cutD l lo hi) (cutV vs lo hi) := by
  unfold cutD cutV
  rw [r.length]
  exact Reps.take' _ (Reps.drop' _ r)
theorem cut_whole {l : List D} {lo hi : Option Int} (h1 : HT.sIx l.length 0 lo = 0) (h2 : HT.sIx l.length l.length hi = l.length) : cutD l lo hi = l := by
  unfold cutD
  rw [h1, h2, List.drop_zero, Nat.sub_zero, List.take_length]
def rSlM (K : PySem.W.Frag) (F : Nat → Option Addr) (m : Bool) : V → Option Int → Option Int → Hp → VK → Prop := fun x lo hi H Q => ∃ Xi rho h d z r h', Rl K F Xi rho h H ∧ Rx K F Xi rho H d x ∧ slcD d lo hi = some z ∧ alc m z h = .ok (r, h') ∧ Post K F Xi rho H r h' Q
theorem sl_mi (m : Bool) : SlR X (rSlM X.K F m) := by
  intro pins s σ H x v vl vu lo hi sl Q I rx hs pl pu hw
  obtain ⟨Xi, rho, h, d, z, r, h', rl, xd, q, ea, w⟩ := hw
  cases d with
  | tup l =>
    cases q
    have rd := xd.rep rfl
    rw [alc_plain rfl] at ea
    cases ea
    obtain ⟨a, vs, rfl, ht, rr⟩ := rd.etup
    refine sl_tupA pins s σ H _ v vl vu lo hi sl Q I rx hs pl pu ⟨a, vs, rfl, .of ht, fun e0 => ?_, fun _ => tup_new rl (cut_rep lo hi rr) w⟩
    rw [rr.length] at e0
    rw [cut_whole e0.1 e0.2] at w
    exact w.here rl rd
  | lst l =>
    cases q
    obtain ⟨a, vs, rfl, ht, rr⟩ := xd.lst
    exact sl_list pins s σ H _ v vl vu lo hi sl Q I rx hs pl pu ⟨a, vs, rfl, .of ht, alc_new rl (Cont.l (cut_rep lo hi rr)) ea w⟩
  | scr l =>
    cases q
    obtain ⟨a, vs, rfl, ht, rr⟩ := (xd.rep rfl).escr
    exact sl_list pins s σ H _ v vl vu lo hi sl Q I rx hs pl pu ⟨a, vs, rfl, ht, alc_new rl (Cont.l (cut_rep lo hi rr)) ea w⟩
  | _ => cases q
/-! ### built-ins -/
theorem allB_spec : ∀ {l : List D} {bs : List Bool} {vs : List V}, allB l = some bs → Reps K F Xi rho H l vs → vs = bs.map V.bl
  | [], bs, vs, e, r => by cases e; exact r.nil_inv
  | d :: l, bs, vs, e, r => by
    obtain ⟨v, t, rfl, r1, r2⟩ := r.cons_inv
    cases d with
    | bl b =>
      obtain ⟨q, e3, rfl⟩ := Option.map_eq_some_iff.mp (show (allB l).map (fun q => b :: q) = some bs from e)
      rw [r1.ebl, allB_spec e3 r2]
      rfl
    | _ => cases e
theorem allI_spec : ∀ {l : List D} {bs : List Int} {vs : List V}, allI l = some bs → Reps K F Xi rho H l vs → vs = bs.map V.int
  | [], bs, vs, e, r => by cases e; exact r.nil_inv
  | d :: l, bs, vs, e, r => by
    obtain ⟨v, t, rfl, r1, r2⟩ := r.cons_inv
    cases d with
    | int b =>
      obtain ⟨q, e3, rfl⟩ := Option.map_eq_some_iff.mp (show (allI l).map (fun q => b :: q) = some bs from e)
      rw [r1.eint, allI_spec e3 r2]
      rfl
    | _ => cases e
theorem maxI_spec : ∀ (r : List Int) (a : Int), maxI a r ∈ a :: r ∧ ∀ y, y ∈ a :: r → y ≤ maxI a r
  | [], a => by
    refine ⟨List.mem_cons_self, fun y hy => ?_⟩
    simp at hy; subst hy; exact Int.le_refl _
  | b :: r, a => by
    obtain ⟨h1, h2⟩ := maxI_spec r (if a < b then b else a)
    show maxI (if a < b then b else a) r ∈ _ ∧ ∀ y, y ∈ _ → y ≤ maxI (if a < b then b else a) r
    have top : a ≤ (if a < b then b else a) ∧ b ≤ (if a < b then b else a) := by
      by_cases q : a < b
      · rw [if_pos q]; omega
      · rw [if_neg q]; omega
    refine ⟨?_, fun y hy => ?_⟩
    · rcases List.mem_cons.mp h1 with q | q
      · rw [q]
        by_cases z : a < b
        · rw [if_pos z]; simp
        · rw [if_neg z]; simp
      · exact List.mem_cons_of_mem _ (List.mem_cons_of_mem _ q)
    · have h0 := h2 _ List.mem_cons_self
      rcases List.mem_cons.mp hy with q | q
      · subst q; omega
      · rcases List.mem_cons.mp q with q | q
        · subst q; omega
        · exact h2 y (List.mem_cons_of_mem _ q)
theorem minI_spec : ∀ (r : List Int) (a : Int), minI a r ∈ a :: r ∧ ∀ y, y ∈ a :: r → minI a r ≤ y
  | [], a => by
    refine ⟨List.mem_cons_self, fun y hy => ?_⟩
    simp at hy; subst hy; exact Int.le_refl _
  | b :: r, a => by
    obtain ⟨h1, h2⟩ := minI_spec r (if b < a then b else a)
    show minI (if b < a then b else a) r ∈ _ ∧ ∀ y, y ∈ _ → minI (if b < a then b else a) r ≤ y
    have top : (if b < a then b else a) ≤ a ∧ (if b < a then b else a) ≤ b := by
      by_cases q : b < a
      · rw [if_pos q]; omega
      · rw [if_neg q]; omega
    refine ⟨?_, fun y hy => ?_⟩
    · rcases List.mem_cons.mp h1 with q | q
      · rw [q]
        by_cases z : b < a
        · rw [if_pos z]; simp
        · rw [if_neg z]; simp
      · exact List.mem_cons_of_mem _ (List.mem_cons_of_mem _ q)
    · have h0 := h2 _ List.mem_cons_self
      rcases List.mem_cons.mp hy with q | q
      · subst q; omega
      · rcases List.mem_cons.mp q with q | q
        · subst q; omega
        · exact h2 y (List.mem_cons_of_mem _ q)
theorem noDict_lay : ∀ {p : PyData}, p.canLay0 = true → p.hasDict = false := fun {p} h => PyData.hasDict_of_canLay p h
/-- repr by data -/
theorem call_reprP (hu : X.A.units + 200 < cLine) (hg : X.A.guards = some []) : CallR X (.builtin "repr") (fun xs H Q => ∃ x p, xs = [x] ∧ Dp X.K H x p ∧ p.hasDict = false ∧ p.showable = true ∧ p.depth ≤ 150 ∧ p.shown.length ≤ sizeLine ∧ Q (.str p.shown) H) := by
  intro pins s σ H xs us Q I r hw
  obtain ⟨x, p, rfl, hp, hd, hs, hdep, hz, w⟩ := hw
  obtain ⟨u, rfl, ru⟩ := vals1 r
  cases hp with
  | non =>
    rw [PyData.shown_none] at w
    cases (show u = Value.none from ru)
    exact PySem.P.repr_of_none ⟨.str _, H, I.tok _, ⟨_, rfl⟩, w⟩
  | bl b =>
    rw [PyData.shown_bool] at w
    cases (show u = Value.bool b from ru)
    exact PySem.P.repr_of_bool ⟨.str _, H, I.tok _, ⟨_, rfl⟩, w⟩
  | int i =>
    rw [PyData.shown_int] at w
    obtain ⟨t, rfl⟩ := ru
    exact PySem.P.repr_of_int (by simpa [PyData.showable] using hs) ⟨.str _, H, I.tok _, ⟨_, rfl⟩, w⟩
  | str z =>
    rw [PyData.shown_str] at w hz
    obtain ⟨t, rfl⟩ := ru
    exact PySem.P.repr_of_str ⟨.str _, H, I.tok _, ⟨_, rfl⟩, w⟩ hz
  | lst h1 h2 =>
    obtain ⟨as, rd⟩ := Dp.reads I _ _ _ (.lst h1 h2) ru
    cases ru
    refine repr_of_reads' rd hs (PyData.noDict_hsm hd) hg (by omega) (fun _ _ e => e) (fun h' u tk hk => ?_) hz
    exact ⟨.str _, H, I.kept (t' := tk) hk, ⟨_, rfl⟩, w⟩
  | tup h1 h2 =>
    obtain ⟨as, rd⟩ := Dp.reads I _ _ _ (.tup h1 h2) ru
    cases ru
    refine repr_of_reads' rd hs (PyData.noDict_hsm hd) hg (by omega) (fun _ _ e => e) (fun h' u tk hk => ?_) hz
    exact ⟨.str _, H, I.kept (t' := tk) hk, ⟨_, rfl⟩, w⟩
theorem noDict_toP : (∀ (d : D) (p : PyData), d.toP = some p → p.hasDict = false) := by
  intro d
  refine D.rec (motive_1 := fun d => ∀ p, d.toP = some p → p.hasDict = false) (motive_2 := fun l => ∀ ps, D.toPs l = some ps → PyData.hasDictAll ps = false) ?_ ?_ ?_ ?_ ?_ ?_ ?_ ?_ ?_ ?_ ?_ ?_ ?_ d
  · intro p e; unfold D.toP at e; cases e; simp only [PyData.hasDict]
  · intro b p e; unfold D.toP at e; cases e; simp only [PyData.hasDict]
  · intro b p e; unfold D.toP at e; cases e; simp only [PyData.hasDict]
  · intro b p e; unfold D.toP at e; cases e; simp only [PyData.hasDict]
  · intro l ih p e
    unfold D.toP at e
    obtain ⟨ps, e1, rfl⟩ := Option.map_eq_some_iff.mp e
    simp only [PyData.hasDict]
    exact ih ps e1
  · intro l ih p e
    unfold D.toP at e
    obtain ⟨ps, e1, rfl⟩ := Option.map_eq_some_iff.mp e
    simp only [PyData.hasDict]
    exact ih ps e1
  · intro ks l ih p e; unfold D.toP at e; cases e
  · intro ks l ih p e; unfold D.toP at e; cases e
  · intro b p e; unfold D.toP at e; cases e
  · intro b p e; unfold D.toP at e; cases e
  · intro l ih p e; unfold D.toP at e; cases e
  · intro ps e; unfold D.toPs at e; cases e; simp only [PyData.hasDictAll]
  · intro d l ih1 ih2 ps e
    unfold D.toPs at e
    obtain ⟨p, e1, e2⟩ := Option.bind_eq_some_iff.mp e
    obtain ⟨q, e3, rfl⟩ := Option.map_eq_some_iff.mp e2
    simp only [PyData.hasDictAll, ih1 p e1, ih2 q e3, Bool.or_false]
def biOf : Bi → Value
  | .len => .builtin "len"
  | .int => .type "int"
  | .tuple => .type "tuple"
  | .list => .type "list"
  | .repr => .builtin "repr"
  | .all => .builtin "all"
  | .any => .builtin "any"
  | .sum => .builtin "sum"
  | .max => .builtin "max"
  | .min => .builtin "min"
  | .abs => .builtin "abs"
  | .gcd => .builtin "math.gcd"
  | .str => .type "str"
/-- values that were looked up -/
inductive Rxs (K : PySem.W.Frag) (F : Nat → Option Addr) (Xi : List Addr) (rho : Adrs) (H : Hp) : List D → List V → Prop
  | nil : Rxs K F Xi rho H [] []
  | cons {d : D} {v : V} {l : List D} {vs : List V} : Rx K F Xi rho H d v → Rxs K F Xi rho H l vs → Rxs K F Xi rho H (d :: l) (v :: vs)
theorem Rl.rxs (rl : Rl K F Xi rho h H) : ∀ {l : List D} {vs : List V}, Reps K F Xi rho H l vs → Rxs K F Xi rho H (l.map (deref h)) vs
  | [], vs, r => by rw [r.nil_inv]; exact .nil
  | d :: l, vs, r => by
    obtain ⟨v, t, rfl, r1, r2⟩ := r.cons_inv
    exact .cons (rl.rx r1) (Rl.rxs rl r2)
def rBi (K : PySem.W.Frag) (F : Nat → Option Addr) (b : Bi) (m : Bool) : List V → Hp → VK → Prop := fun xs H Q => ∃ Xi rho h ds z r h', Rl K F Xi rho h H ∧ Rxs K F Xi rho H ds xs ∧ biD b ds = some z ∧ alc m z h = .ok (r, h') ∧ Post K F Xi rho H r h' Q
theorem call_bi (hc : X.calm = true) (hu : X.A.units + 200 < cLine) (hg : X.A.guards = some []) (b : Bi) (m : Bool) : CallR X (biOf b) (rBi X.K F b m) := by
  intro pins s σ H xs us Q I r hw
  obtain ⟨Xi, rho, h, ds, z, rr, h', rl, rx, e, ea, w⟩ := hw
  have one : ∀ {d : D}, ds = [d] → ∃ x, xs = [x] ∧ Rx X.K F Xi rho H d x := fun {d} e0 => by
    subst e0
    cases rx with
    | cons r1 r2 => cases r2; exact ⟨_, rfl, r1⟩
  have int_ : ∀ {i : Int}, z = .int i → Q (.int i) H := fun {i} e0 => by subst e0; exact post_int rl ea w
  have bl_ : ∀ {i : Bool}, z = .bl i → Q (.bl i) H := fun {i} e0 => by
    subst e0
    rw [alc_plain rfl] at ea; cases ea
    exact post_bl rl w
  cases b with
  | len =>
    cases rx with
    | nil => cases e
    | cons r1 r2 =>
      rename_i d x l vs
      cases r2 with
      | cons _ _ => cases d <;> cases e
      | nil =>
        cases d with
        | tup l =>
          cases e
          obtain ⟨a, vs, rfl, ht, q⟩ := (r1.rep rfl).etup
          exact call_len pins s σ H _ us Q I r ⟨_, vs.length, rfl, .inr ⟨vs, .of ht, rfl⟩, by rw [q.length]; exact int_ rfl⟩
        | lst l =>
          cases e
          obtain ⟨a, vs, rfl, ht, q⟩ := r1.lst
          exact call_len pins s σ H _ us Q I r ⟨_, vs.length, rfl, .inl ⟨vs, .of ht, rfl⟩, by rw [q.length]; exact int_ rfl⟩
        | scr l =>
          cases e
          obtain ⟨a, vs, rfl, ht, q⟩ := (r1.rep rfl).escr
          exact call_len pins s σ H _ us Q I r ⟨_, vs.length, rfl, .inl ⟨vs, ht, rfl⟩, by rw [q.length]; exact int_ rfl⟩
        | _ => cases e
  | int =>
    cases rx with
    | nil => cases e
    | cons r1 r2 =>
      rename_i d x l vs
      cases r2 with
      | cons _ _ => cases d <;> cases e
      | nil =>
        cases d with
        | int i => cases e; exact call_int1 pins s σ H _ us Q I r (.inl ⟨i, by rw [(r1.rep rfl).eint], int_ rfl⟩)
        | bl i => cases e; exact call_int1 pins s σ H _ us Q I r (.inr ⟨i, by rw [(r1.rep rfl).ebl], int_ rfl⟩)
        | _ => cases e
  | tuple =>
    cases rx with
    | nil => cases e
    | cons r1 r2 =>
      rename_i d x l vs
      cases r2 with
      | cons _ _ => cases d <;> cases e
      | nil =>
        cases d with
        | tup l =>
          cases e
          have rd := r1.rep rfl
          rw [alc_plain rfl] at ea; cases ea
          obtain ⟨a, vs, rfl, ht, q⟩ := rd.etup
          exact call_tuple_of pins s σ H _ us Q I r ⟨a, vs, rfl, .inr ⟨.of ht, w.here rl rd⟩⟩
        | lst l =>
          cases e
          rw [alc_plain rfl] at ea; cases ea
          obtain ⟨a, vs, rfl, ht, q⟩ := r1.lst
          exact call_tuple_of pins s σ H _ us Q I r ⟨a, vs, rfl, .inl ⟨.of ht, tup_new rl q w⟩⟩
        | _ => cases e
  | list =>
    cases rx with
    | nil => cases e
    | cons r1 r2 =>
      rename_i d x l vs
      cases r2 with
      | cons _ _ => cases d <;> cases e
      | nil =>
        cases d with
        | tup l =>
          cases e
          obtain ⟨a, vs, rfl, ht, q⟩ := (r1.rep rfl).etup
          exact call_list_of pins s σ H _ us Q I r ⟨a, vs, rfl, .inr (.of ht), alc_new rl (Cont.l q) ea w⟩
        | lst l =>
          cases e
          obtain ⟨a, vs, rfl, ht, q⟩ := r1.lst
          exact call_list_of pins s σ H _ us Q I r ⟨a, vs, rfl, .inl (.of ht), alc_new rl (Cont.l q) ea w⟩
        | _ => cases e
  | repr =>
    cases rx with
    | nil => cases e
    | cons r1 r2 =>
      rename_i d x l vs
      cases r2 with
      | cons _ _ => cases d <;> cases e
      | nil =>
        obtain ⟨p, e1, e2⟩ := Option.bind_eq_some_iff.mp (show (d.toP.bind fun p => if p.showable && decide (p.depth ≤ 150) && decide (p.shown.length ≤ szL) then some (D.str p.shown) else none) = some z from e)
        split at e2
        · rename_i hz
          simp only [Bool.and_eq_true, decide_eq_true_eq] at hz
          cases e2
          rw [alc_plain rfl] at ea; cases ea
          exact call_reprP hu hg pins s σ H _ us Q I r ⟨x, p, rfl, dp_rx e1 r1, noDict_toP d p e1, hz.1.1, hz.1.2, hz.2, w.here rl (by unfold Rep; rfl)⟩
        · cases e2
  | all =>
    cases rx with
    | nil => cases e
    | cons r1 r2 =>
      rename_i d x l vs
      cases r2 with
      | cons _ _ => cases d <;> cases e
      | nil =>
        cases d with
        | lst l =>
          obtain ⟨bs, e1, rfl⟩ := Option.map_eq_some_iff.mp (show ((allB l).map fun bs => D.bl (bs.all id)) = some z from e)
          obtain ⟨a, vs, rfl, ht, q⟩ := r1.lst
          rw [allB_spec e1 q] at ht
          exact cr_all hc pins s σ H _ us Q I r ⟨a, bs, rfl, .of ht, bl_ rfl⟩
        | _ => cases e
  | any =>
    cases rx with
    | nil => cases e
    | cons r1 r2 =>
      rename_i d x l vs
      cases r2 with
      | cons _ _ => cases d <;> cases e
      | nil =>
        cases d with
        | lst l =>
          obtain ⟨bs, e1, rfl⟩ := Option.map_eq_some_iff.mp (show ((allB l).map fun bs => D.bl (bs.any id)) = some z from e)
          obtain ⟨a, vs, rfl, ht, q⟩ := r1.lst
          rw [allB_spec e1 q] at ht
          exact cr_any hc pins s σ H _ us Q I r ⟨a, bs, rfl, .of ht, bl_ rfl⟩
        | _ => cases e
  | sum =>
    cases rx with
    | nil => cases e
    | cons r1 r2 =>
      rename_i d x l vs
      cases r2 with
      | cons _ _ => cases d <;> cases e
      | nil =>
        cases d with
        | lst l =>
          obtain ⟨bs, e1, rfl⟩ := Option.map_eq_some_iff.mp (show ((allI l).map fun bs => D.int bs.sum) = some z from e)
          obtain ⟨a, vs, rfl, ht, q⟩ := r1.lst
          rw [allI_spec e1 q] at ht
          exact cr_sum hc pins s σ H _ us Q I r ⟨a, bs, rfl, .of ht, int_ rfl⟩
        | _ => cases e
  | max =>
    cases rx with
    | nil => cases e
    | cons r1 r2 =>
      rename_i d x l vs
      cases r2 with
      | cons r3 r4 =>
        rename_i d2 x2 l2 vs2
        cases r4 with
        | cons _ _ => cases d <;> cases d2 <;> cases e
        | nil =>
          cases d with
          | int i =>
            cases d2 with
            | int j =>
              cases e
              exact call_max2 hc pins s σ H _ us Q I r ⟨i, j, by rw [(r1.rep rfl).eint, (r3.rep rfl).eint], int_ rfl⟩
            | _ => cases e
          | _ => cases e
      | nil =>
        cases d with
        | lst l =>
          obtain ⟨bs, e1, e2⟩ := Option.bind_eq_some_iff.mp (show ((allI l).bind fun ns => match ns with
            | [] => none
            | a :: r => some (D.int (maxI a r))) = some z from e)
          cases bs with
          | nil => cases e2
          | cons b bs =>
            cases e2
            obtain ⟨a, vs, rfl, ht, q⟩ := r1.lst
            rw [allI_spec e1 q] at ht
            refine cr_max hc pins s σ H _ us Q I r ⟨a, b :: bs, rfl, .of ht, by simp, fun m hm hy => ?_⟩
            obtain ⟨g1, g2⟩ := maxI_spec bs b
            have em : m = maxI b bs := Int.le_antisymm (g2 m hm) (hy _ g1)
            exact int_ (by rw [em])
        | _ => cases e
  | min =>
    cases rx with
    | nil => cases e
    | cons r1 r2 =>
      rename_i d x l vs
      cases r2 with
      | cons r3 r4 =>
        rename_i d2 x2 l2 vs2
        cases r4 with
        | cons _ _ => cases d <;> cases d2 <;> cases e
        | nil =>
          cases d with
          | int i =>
            cases d2 with
            | int j =>
              cases e
              exact call_min2 hc pins s σ H _ us Q I r ⟨i, j, by rw [(r1.rep rfl).eint, (r3.rep rfl).eint], int_ rfl⟩
            | _ => cases e
          | _ => cases e
      | nil =>
        cases d with
        | lst l =>
          obtain ⟨bs, e1, e2⟩ := Option.bind_eq_some_iff.mp (show ((allI l).bind fun ns => match ns with
            | [] => none
            | a :: r => some (D.int (minI a r))) = some z from e)
          cases bs with
          | nil => cases e2
          | cons b bs =>
            cases e2
            obtain ⟨a, vs, rfl, ht, q⟩ := r1.lst
            rw [allI_spec e1 q] at ht
            refine cr_min hc pins s σ H _ us Q I r ⟨a, b :: bs, rfl, .of ht, by simp, fun m hm hy => ?_⟩
            obtain ⟨g1, g2⟩ := minI_spec bs b
            have em : m = minI b bs := Int.le_antisymm (hy _ g1) (g2 m hm)
            exact int_ (by rw [em])
        | _ => cases e
  | abs =>
    cases rx with
    | nil => cases e
    | cons r1 r2 =>
      rename_i d x l vs
      cases r2 with
      | cons _ _ => cases d <;> cases e
      | nil =>
        cases d with
        | int i => cases e; exact call_abs pins s σ H _ us Q I r ⟨i, by rw [(r1.rep rfl).eint], int_ rfl⟩
        | _ => cases e
  | gcd =>
    cases rx with
    | nil => cases e
    | cons r1 r2 =>
      rename_i d x l vs
      cases r2 with
      | nil => cases d <;> cases e
      | cons r3 r4 =>
        rename_i d2 x2 l2 vs2
        cases r4 with
        | cons _ _ => cases d <;> cases d2 <;> cases e
        | nil =>
          cases d with
          | int i =>
            cases d2 with
            | int j =>
              cases e
              exact cr_gcd pins s σ H _ us Q I r ⟨i, j, by rw [(r1.rep rfl).eint, (r3.rep rfl).eint], int_ rfl⟩
            | _ => cases e
          | _ => cases e
  | str =>
    cases rx with
    | nil => cases e
    | cons r1 r2 =>
      rename_i d x l vs
      cases r2 with
      | cons _ _ => cases d <;> cases e
      | nil =>
        cases d with
        | int i =>
          have e' : (if i.natAbs.log2 < 1920 then some (D.str (toString i : String)) else none) = some z := e
          split at e'
          · rename_i hz
            cases e'
            rw [alc_plain rfl] at ea; cases ea
            exact call_str_int pins s σ H _ us Q I r ⟨i, by rw [(r1.rep rfl).eint], hz, w.here rl (by unfold Rep; rfl)⟩
          · cases e'
        | _ => cases e
end
end Mi
/-! Mi over the layer: defs, contexts, readings. -/
namespace Mi
open PySem PySem.Spec PyProof.Rows L2

structure Tab where
  P : List Fn
  names : List (Str × Nat)
  blt : List Str
  cst : List (Str × Int)
  gcd : Bool

/-- a def's promise, where nothing is shown just now -/
structure MOk (P : Program) (w : World) (K : PySem.W.Frag) (mg : Str → Option Value) (base : Heap) (k : Nat) (f : Addr) (fd : FuncData) (ps : List Str) (sp : List V → Hp → VK → Prop) : Prop where
  run : ∀ (A : Around) (outer : List PySem.Env) (s : Shared) (H : Hp) (args : Args) (us : List Value) (vs : List V) (Q : VK), Room k A → A.guards = some [] → Env0 P w K mg base A outer s H → BindsTo s fd args (ps.zip us) → Vals vs us →
    vs.length = ps.length → sp vs H Q → codeAny (model P w) A (.call (.ref f) args) (CR CX0 outer P w H s Q E0) s
/-- what a def of the program promises: what the evaluator tells -/
def spF (K : PySem.W.Frag) (F : Nat → Option Addr) (P : List Fn) (k f : Nat) : List V → Hp → VK → Prop := fun vs H Q =>
  ∃ Xi rho h ds d h', Rl K F Xi rho h H ∧ Reps K F Xi rho H ds vs ∧ callF P k f ds h = .ok (d, h') ∧ Post K F Xi rho H d h' Q
structure DefOk (T : Tab) (F : Nat → Option Addr) (k : Nat) (P : Program) (w : World) (K : PySem.W.Frag) (mg : Str → Option Value) (base : Heap) (f : Nat) (a : Addr) : Prop where
  kp : PySem.W.keepIn K (.ref a) = true
  ex : ∃ (fd : FuncData) (ps : List Str) (fn : Fn), T.P[f]? = some fn ∧ ps.length = fn.ps ∧ Binds K fd ps [] ∧ MOk P w K mg base k a fd ps (spF K F T.P k f)
structure Ctx (T : Tab) (F : Nat → Option Addr) (k : Nat) (X : Cx) : Prop where
  calm : X.calm = true
  nd : X.N.Nodup
  room : Room k X.A
  grd : X.A.guards = some []
  nms : ∀ x f, T.names.lookup x = some f → ∃ a, F f = some a ∧ X.mg x = some (.ref a)
  bls : ∀ x ∈ T.blt, X.mg x = none
  cst : ∀ x i, T.cst.lookup x = some i → ∃ t, X.mg x = some (.int i t)
  gcd : T.gcd = true → X.mg "gcd" = some (.builtin "math.gcd")
  fns : ∀ f a, F f = some a → DefOk T F k X.prog X.w X.K X.mg X.base f a
section
variable {T : Tab} {F : Nat → Option Addr} {k : Nat} {X : Cx}
theorem Ctx.un (C : Ctx T F k X) : X.A.units + 200 < cLine := by have := C.room.un; omega
theorem Ctx.blk (C : Ctx T F k X) (s : Shared) (H : Hp) (scope : Scope) (cenv : L2.Cx → PySem.Env) (fp : List Addr) : Ctx T F k (X.blk s H scope (cenv X) fp) :=
  ⟨C.calm, C.nd, C.room, C.grd, C.nms, C.bls, C.cst, C.gcd, C.fns⟩
/-- the callee runs -/
theorem run_m {pins : List (Addr × Obj)} {σ : L2.St} {H : Hp} {s : Shared} {Q : VK} {us : List Value} {vs : List V} {a : Addr} {f : Nat} (C : Ctx T F k X) (hf : F f = some a) (I : L2.Inv X pins σ H s) (r : Vals vs us)
    (hw : spF X.K F T.P k f vs H Q) : wpAny (model X.prog X.w) X.A (call (.ref a) us) (EP X pins σ Q) X.xe s := by
  obtain ⟨fd, ps, fn, hp, hl, hb, M⟩ := (C.fns f a hf).ex
  have len : vs.length = ps.length := by
    obtain ⟨Xi, rho, h, ds, d, h', rl, rr, e, _⟩ := hw
    cases k with
    | zero => cases e
    | succ k =>
      have e' : (match T.P[f]? with
        | none => (.error .stuck : R (D × MH))
        | some fn => grd (decide (ds.length = fn.ps)) (bnd (exec (callF T.P k) fn.body (ds.map some ++ List.replicate (fn.n - fn.ps) none) h) fun p h1 => match p.1 with
          | .rt d => finish fn.mv h.length d h1
          | .nx => finish fn.mv h.length .non h1
          | _ => .error .stuck)) = .ok (d, h') := e
      rw [hp] at e'
      have e2 := (grd_inv e').1
      rw [rr.length, hl]
      exact of_decide_eq_true e2
  have hl2 : (us ++ []).length = ps.length := by rw [List.append_nil, ← r.length]; exact len
  have bt := hb s us I.kIn hl2
  rw [List.append_nil] at bt
  refine wpAny_call (codeAny_mono (M.run X.A X.stack s H ⟨us, []⟩ us vs Q C.room C.grd I.env0 bt r len hw) fun res s' hq => ?_)
  cases res with
  | error e => exact hq.elim
  | ok fl =>
    cases fl with
    | ret u => exact I.after hq
    | next => exact hq.elim
    | brk => exact hq.elim
    | cont => exact hq.elim
end

/-! ### readings -/
/-- the state -/
structure Rel (K : PySem.W.Frag) (F : Nat → Option Addr) (Xi : List Addr) (rho : Adrs) (σm : Env) (h : MH) (σ : L2.St) (H : Hp) : Prop where
  rl : Rl K F Xi rho h H
  len : σm.length = σ.length
  en : ∀ (i : Nat) (d : D), σm[i]? = some (some d) → ∃ v, σ[i]? = some (some v) ∧ Rep K F Xi rho H d v
section
variable {K : PySem.W.Frag} {F : Nat → Option Addr} {Xi : List Addr} {rho rho' : Adrs} {H H' : Hp} {h h' : MH} {σm : Env} {σ : L2.St}
theorem Rel.on (r : Rel K F Xi rho σm h σ H) (s : Sp rho H rho' H') (rl : Rl K F Xi rho' h' H') : Rel K F Xi rho' σm h' σ H' :=
  ⟨rl, r.len, fun i d e => let ⟨v, e1, e2⟩ := r.en i d e; ⟨v, e1, Rep.mo s.mo _ _ e2⟩⟩
theorem Rel.set (r : Rel K F Xi rho σm h σ H) {d : D} {v : V} (i : Nat) (rv : Rep K F Xi rho H d v) : Rel K F Xi rho (σm.set i (some d)) h (σ.set i (some v)) H := by
  refine ⟨r.rl, by rw [List.length_set, List.length_set]; exact r.len, fun j e he => ?_⟩
  by_cases q : i = j
  · subst q
    have hi : i < σm.length := by
      have := (List.getElem?_eq_some_iff.mp he).1
      rw [List.length_set] at this; exact this
    rw [List.getElem?_set_self hi] at he
    cases he
    exact ⟨v, List.getElem?_set_self (by rw [← r.len]; exact hi), rv⟩
  · rw [List.getElem?_set_ne q] at he
    rw [List.getElem?_set_ne q]
    exact r.en j e he
theorem Rel.unset (r : Rel K F Xi rho σm h σ H) (i : Nat) (w : Option V) : Rel K F Xi rho (σm.set i none) h (σ.set i w) H := by
  refine ⟨r.rl, by rw [List.length_set, List.length_set]; exact r.len, fun j e he => ?_⟩
  by_cases q : i = j
  · subst q
    have hi : i < σm.length := by
      have := (List.getElem?_eq_some_iff.mp he).1
      rw [List.length_set] at this; exact this
    rw [List.getElem?_set_self hi] at he
    cases he
  · rw [List.getElem?_set_ne q] at he
    rw [List.getElem?_set_ne q]
    exact r.en j e he
theorem Rel.wipe (r : Rel K F Xi rho σm h σ H) : ∀ vs : List Nat, Rel K F Xi rho (wipeD σm vs) h (L2.wipe σ vs) H
  | [] => r
  | v :: vs => (Rel.wipe r vs).unset v none
theorem Rel.hide (r : Rel K F Xi rho σm h σ H) {p : Addr} {o : HO} (hp : H p = none) : Rel K F (p :: Xi) rho σm h σ (upd H p o) :=
  ⟨r.rl.hide hp, r.len, fun i d e => let ⟨v, e1, e2⟩ := r.en i d e; ⟨v, e1, Rep.mo (sp_new hp).mo _ _ (Rep.xi hp _ _ e2)⟩⟩
end
abbrev CF (T : Tab) (k : Nat) : Caller := callF T.P k
def RE (K : PySem.W.Frag) (T : Tab) (F : Nat → Option Addr) (k : Nat) (x : Ex) : TE := fun σ H Q =>
  ∃ Xi rho σm h d h', Rel K F Xi rho σm h σ H ∧ ev (CF T k) x σm h = .ok (d, h') ∧ Post K F Xi rho H d h' Q
def RA (K : PySem.W.Frag) (T : Tab) (F : Nat → Option Addr) (k : Nat) (x : Ex) : TA := fun σ H Q =>
  ∃ Xi rho σm h l h', Rel K F Xi rho σm h σ H ∧ ev (CF T k) x σm h = .ok (.tup l, h') ∧ ∀ vs H' rho', Sp rho H rho' H' → Rl K F Xi rho' h' H' → Reps K F Xi rho' H' l vs → Q vs H'
def RT (K : PySem.W.Frag) (T : Tab) (F : Nat → Option Addr) (k : Nat) (x : Ex) : TT := fun σ H Q =>
  ∃ Xi rho σm h d h' t, Rel K F Xi rho σm h σ H ∧ ev (CF T k) x σm h = .ok (d, h') ∧ truD (deref h' d) = some t ∧ ∀ H' rho', Sp rho H rho' H' → Rl K F Xi rho' h' H' → Q t H'
section
variable {X : Cx} {T : Tab} {F : Nat → Option Addr} {k : Nat} {a b : Ex} {σ : L2.St} {H : Hp}
/-- one expression, what follows -/
theorem re1 {K : PySem.W.Frag} {Xi : List Addr} {rho : Adrs} {σm : Env} {h h1 : MH} {d : D} {Q : VK} (r : Rel K F Xi rho σm h σ H) (e : ev (CF T k) a σm h = .ok (d, h1))
    (q : ∀ v H1 rho1, Sp rho H rho1 H1 → Rel K F Xi rho1 σm h1 σ H1 → Rep K F Xi rho1 H1 d v → Q v H1) : RE K T F k a σ H Q :=
  ⟨Xi, rho, σm, h, d, h1, r, e, fun v H1 rho1 s rl rd => q v H1 rho1 s (r.on s rl) rd⟩
end
end Mi
/-! Mi over the layer: is this Python the text? -/
namespace Mi
open PySem PySem.Spec PyProof.Rows L2

def visB (sc : Scope) (x : Str) : Bool :=
  match sc.names.lookup x with
  | some .local => true
  | some .cell => true
  | some .free => true
  | _ => false
def glB (sc : Scope) (x : Str) : Bool := decide (sc.names.lookup x = some .globalImplicit) && !(x == ("__debug__" : Str))
def noStar : Expr → Bool
  | .Starred .. => false
  | _ => true
def noSlice : Expr → Bool
  | .Slice .. => false
  | _ => true
/-- its truth is its value's truth -/
def plainTest : Expr → Bool
  | .UnaryOp .Not _ _ => false
  | .BoolOp .. => false
  | .IfExp .. => false
  | .Compare .. => false
  | _ => true
/-- a receiver whose method is looked up plainly -/
def plainRecv : Expr → Bool
  | .Call (.Name _ _) [] [] _ => false
  | _ => true
def isComp : Expr → Bool
  | .ListComp .. => true
  | .SetComp .. => true
  | .DictComp .. => true
  | _ => false
def noSet : Expr → Bool
  | .Set .. => false
  | _ => true
def nameAt (N : List Str) (sc : Scope) (i : Nat) (x : Str) : Bool := decide (N[i]? = some x) && visB sc x && !(x == ("__debug__" : Str)) && !(x == ("__classdict__" : Str))
def locB (sc : Scope) (x : Str) : Bool :=
  match sc.names.lookup x with
  | some .local => true
  | some .cell => true
  | _ => false
def biName : Bi → Str
  | .len => "len"
  | .int => "int"
  | .tuple => "tuple"
  | .list => "list"
  | .repr => "repr"
  | .all => "all"
  | .any => "any"
  | .sum => "sum"
  | .max => "max"
  | .min => "min"
  | .abs => "abs"
  | .gcd => "gcd"
  | .str => "str"
def biKnown (T : Tab) (b : Bi) : Bool :=
  match b with
  | .gcd => T.gcd
  | b => T.blt.contains (biName b)
def tyName : Ty → Str
  | .int => "int"
  | .bool => "bool"
  | .str => "str"
  | .tuple => "tuple"
  | .list => "list"
  | .dict => "dict"
mutual
/-- targets; sc: the scope in which the names are stored -/
def chkT (N : List Str) (sc : Scope) : Tg → Expr → Bool
  | .name i, e => match e with
    | .Name x _ => decide (N[i]? = some x) && locB sc x
    | _ => false
  | .tup ts, e => match e with
    | .Tuple es _ _ => chkTs N sc ts es
    | _ => false
  | .nil, _ => false
  | .cons _ _, _ => false
def chkTs (N : List Str) (sc : Scope) : Tg → List Expr → Bool
  | .nil, es => match es with
    | [] => true
    | _ => false
  | .cons a b, es => match es with
    | e :: r => noStar e && chkT N sc a e && chkTs N sc b r
    | _ => false
  | .name _, _ => false
  | .tup _, _ => false
end
def tgIn (vs : List Nat) : Tg → Bool
  | .name i => vs.contains i
  | .tup t => tgIn vs t
  | .nil => true
  | .cons a b => tgIn vs a && tgIn vs b
def isTrueC : Ex → Bool
  | .bl true => true
  | _ => false
def meName : Me → Str
  | .append => "append"
  | .pop => "pop"
  | .extend => "extend"
  | .get => "get"
def meAr : Me → Nat → Bool
  | .append, n => n == 1
  | .pop, n => n == 0
  | .extend, n => n == 1
  | .get, n => n == 1 || n == 2
def keyLit : Key → Option Expr → Bool
  | .inl i, e => match e with
    | some (.Constant (.int j) _ _) => decide (i = j)
    | _ => false
  | .inr x, e => match e with
    | some (.Constant (.str y) _ _) => decide (x = y)
    | _ => false
def keyLits : List Key → List (Option Expr) → Bool
  | [], [] => true
  | k :: ks, e :: es => keyLit k e && keyLits ks es
  | _, _ => false
/-- a part of a slice, or none -/
def partB (np : Bool) (l : Option Expr) (f : Expr → Bool) : Bool :=
  match l with
  | none => np
  | some y => !np && f y
mutual
def chk (T : Tab) (N : List Str) : Bool → Scope → Ex → Expr → Bool
  | _, sc, .var i, e => match e with
    | .Name x _ => nameAt N sc i x
    | _ => false
  | _, _, .int i, e => match e with
    | .Constant (.int j) _ _ => decide (i = j)
    | _ => false
  | _, _, .str x, e => match e with
    | .Constant (.str y) _ _ => decide (x = y)
    | _ => false
  | _, _, .bl b, e => match e with
    | .Constant (.bool c) _ _ => decide (b = c)
    | _ => false
  | _, _, .non, e => match e with
    | .Constant .none _ _ => true
    | _ => false
  | _, sc, .gint x i, e => match e with
    | .Name y _ => decide (y = x) && glB sc x && decide (T.cst.lookup x = some i)
    | _ => false
  | _, sc, .gfn x f, e => match e with
    | .Name y _ => decide (y = x) && glB sc x && decide (T.names.lookup x = some f)
    | _ => false
  | _, sc, .bin o _ a b, e => match e with
    | .BinOp l op r _ => decide (op = opOf o) && chk T N false sc a l && chk T N false sc b r
    | _ => false
  | _, sc, .neg a, e => match e with
    | .UnaryOp .USub l _ => chk T N false sc a l
    | _ => false
  | _, sc, .cmp o a b, e => match e with
    | .Compare l [op] [r] _ => decide (op = cmpOf o) && !(behindInMarks op r) && chk T N false sc a l && chk T N false sc b r
    | _ => false
  | _, sc, .chain o p a b c, e => match e with
    | .Compare l [op, op2] [r, r2] _ => decide (op = cmpOf o) && decide (op2 = cmpOf p) && !(lastMarks [op, op2] [r, r2]) && chk T N false sc a l && chk T N false sc b r && chk T N false sc c r2
    | _ => false
  | _, sc, .andd a b, e => match e with
    | .BoolOp .And (x :: y :: r) pos => chk T N false sc a x && chk T N false sc b (.BoolOp .And (y :: r) pos)
    | _ => false
  | _, sc, .orr a b, e => match e with
    | .BoolOp .Or (x :: y :: r) pos => chk T N false sc a x && chk T N false sc b (.BoolOp .Or (y :: r) pos)
    | _ => false
  | _, sc, .one a, e => match e with
    | .BoolOp _ [x] _ => chk T N false sc a x
    | _ => false
  | _, sc, .nott a, e => match e with
    | .UnaryOp .Not x _ => chk T N false sc a x
    | _ => false
  | _, sc, .ite c a b, e => match e with
    | .IfExp x y z _ => chk T N false sc c x && chk T N false sc a y && chk T N false sc b z
    | _ => false
  | _, _, .nil, _ => false
  | _, _, .cons _ _, _ => false
  | _, sc, .tup es, e => match e with
    | .Tuple l _ _ => chks T N sc es l
    | _ => false
  | _, sc, .lst _ es, e => match e with
    | .List l _ => chks T N sc es l
    | _ => false
  | _, _, .dct _ _, e => match e with
    | .Dict [] [] _ => true
    | _ => false
  | _, sc, .dsp _ ks vs, e => match e with
    | .Dict l r _ => keyLits ks l && chks T N sc vs r && !l.isEmpty && decide (l.length = r.length)
    | _ => false
  | _, sc, .call x f es, e => match e with
    | .Call (.Name y _) l [] _ => decide (y = x) && glB sc x && decide (T.names.lookup x = some f) && chks T N sc es l
    | _ => false
  | _, sc, .callv i es, e => match e with
    | .Call (.Name y _) l [] _ => nameAt N sc i y && chks T N sc es l && !l.isEmpty
    | _ => false
  | _, sc, .bi b _ es, e => match e with
    | .Call (.Name y _) l [] _ => decide (y = biName b) && glB sc y && biKnown T b && chks T N sc es l && !l.isEmpty
    | _ => false
  | _, sc, .isi t a, e => match e with
    | .Call (.Name y _) [x, .Name z _] [] _ => decide (y = "isinstance") && glB sc y && T.blt.contains "isinstance" && decide (z = tyName t) && glB sc z && T.blt.contains (tyName t) && noStar x && chk T N false sc a x
    | _ => false
  | _, sc, .ix a i, e => match e with
    | .Subscript x y _ => noSlice y && chk T N false sc a x && chk T N false sc i y
    | _ => false
  | _, sc, .slc _ a lo hi, e => match e with
    | .Subscript x (.Slice l u none _) _ => chk T N false sc a x && partB (isNop lo) l (fun y => chk T N false sc lo y) && partB (isNop hi) u (fun y => chk T N false sc hi y)
    | _ => false
  | _, _, .nopart, _ => false
  | _, sc, .rev _ a, e => match e with
    | .Subscript x (.Slice none none (some (.UnaryOp .USub (.Constant (.int i) _ _) _)) _) _ => decide (i = 1) && chk T N false sc a x
    | _ => false
  | _, sc, .me q a es, e => match e with
    | .Call (.Attribute o y apos) l [] cpos => decide (y = meName q) && decide (apos.endLine = cpos.line) && plainRecv o && meAr q l.length && chk T N false sc a o && chks T N sc es l
    | _ => false
  | it, sc, .rng es, e => match e with
    | .Call (.Name y _) l [] _ => it && decide (y = "range") && glB sc "range" && T.blt.contains "range" && (decide (l.length = 1) || decide (l.length = 2)) && chks T N sc es l
    | _ => false
  | it, sc, .enu a, e => match e with
    | .Call (.Name y _) [x] [] _ => false && it && decide (y = "enumerate") && glB sc "enumerate" && T.blt.contains "enumerate" && noStar x && chk T N false sc a x
    | _ => false
  | it, sc, .zip a b, e => match e with
    | .Call (.Name y _) [x, z] [] _ => false && it && decide (y = "zip") && glB sc "zip" && T.blt.contains "zip" && noStar x && noStar z && chk T N false sc a x && chk T N false sc b z
    | _ => false
  | _, sc, .lc _ own t it c e2, e => match e with
    | .ListComp elt [⟨tg, iter, ifs, 0⟩] scope _ => noSet iter && chk T N true sc it iter && blkC N sc scope (own.map fun i => (N.getD i "", i)) && decide ((own.map fun i => (N.getD i "", i)).map (·.2) = own) && chkT N scope t tg && tgIn own t &&
        (match ifs with
        | [] => isTrueC c
        | [q] => chk T N false (relS scope sc) c q
        | _ => false) && chk T N false (relS scope sc) e2 elt
    | _ => false
  | _, sc, .frz a, e => chk T N false sc a e
def chks (T : Tab) (N : List Str) : Scope → Ex → List Expr → Bool
  | _, .nil, l => match l with
    | [] => true
    | _ => false
  | sc, .cons a b, l => match l with
    | e :: r => noStar e && chk T N false sc a e && chks T N sc b r
    | _ => false
  | _, .var _, _ => false
  | _, .int _, _ => false
  | _, .str _, _ => false
  | _, .bl _, _ => false
  | _, .non, _ => false
  | _, .gint _ _, _ => false
  | _, .gfn _ _, _ => false
  | _, .bin _ _ _ _, _ => false
  | _, .neg _, _ => false
  | _, .cmp _ _ _, _ => false
  | _, .chain _ _ _ _ _, _ => false
  | _, .andd _ _, _ => false
  | _, .orr _ _, _ => false
  | _, .one _, _ => false
  | _, .nott _, _ => false
  | _, .ite _ _ _, _ => false
  | _, .tup _, _ => false
  | _, .lst _ _, _ => false
  | _, .dct _ _, _ => false
  | _, .dsp _ _ _, _ => false
  | _, .call _ _ _, _ => false
  | _, .callv _ _, _ => false
  | _, .bi _ _ _, _ => false
  | _, .isi _ _, _ => false
  | _, .ix _ _, _ => false
  | _, .slc _ _ _ _, _ => false
  | _, .nopart, _ => false
  | _, .rev _ _, _ => false
  | _, .me _ _ _, _ => false
  | _, .rng _, _ => false
  | _, .enu _, _ => false
  | _, .zip _ _, _ => false
  | _, .lc _ _ _ _ _ _, _ => false
  | _, .frz _, _ => false
end
end Mi
/-! Mi over the layer: expressions. -/
namespace Mi
open PySem PySem.Spec PyProof.Rows L2

theorem star_cons {e : Expr} {es : List Expr} {env : PySem.Env} (h : noStar e = true) : starEach (e :: es) env = (false, eval e env) :: starEach es env := by
  cases e <;> first | rfl | cases h
theorem asg_cons {e : Expr} {es : List Expr} {env : PySem.Env} (h : noStar e = true) : assignEach (e :: es) env = (false, assign e env) :: assignEach es env := by
  cases e <;> first | rfl | cases h
theorem plain_ix {b : Expr} (h : noSlice b = true) : PlainIx b := by
  intro o i
  cases b <;> first | rfl | cases h
theorem plain_test {e : Expr} {env : PySem.Env} (h : plainTest e = true) : ∀ whole, isTrue e env whole = (do let v ← whole; standAt e.pos; holding [v] (truthy v)) := by
  intro whole
  cases e with
  | UnaryOp op x pos => cases op <;> first | rfl | cases h
  | BoolOp _ _ _ => cases h
  | IfExp _ _ _ _ => cases h
  | Compare _ _ _ _ => cases h
  | _ => rfl
theorem plain_recv {o : Expr} {m : Str} {env : PySem.Env} {w : Sem Value} (h : plainRecv o = true) : attributeBase o m env w = w := by
  cases o with
  | Call f args kws pos =>
    cases f with
    | Name id p =>
      cases args with
      | nil =>
        cases kws with
        | nil => cases h
        | cons _ _ => rfl
      | cons _ _ => rfl
    | _ => rfl
  | _ => rfl
theorem no_set {e : Expr} {env : PySem.Env} (h : noSet e = true) : ∀ x, foldedSetIterable e env x = pure x := by
  intro x
  cases e <;> first | rfl | cases h
section
variable {T : Tab} {N : List Str}
theorem chks_nil {sc : Scope} {es : List Expr} (h : chks T N sc .nil es = true) : es = [] := by
  cases es with
  | nil => rfl
  | cons _ _ => unfold chks at h; cases h
theorem chks_cons {sc : Scope} {a b : Ex} {es : List Expr} (h : chks T N sc (.cons a b) es = true) : ∃ e r, es = e :: r ∧ noStar e = true ∧ chk T N false sc a e = true ∧ chks T N sc b r = true := by
  cases es with
  | nil => unfold chks at h; cases h
  | cons e r =>
    unfold chks at h
    simp only [Bool.and_eq_true] at h
    exact ⟨e, r, rfl, h.1.1, h.1.2, h.2⟩
/-- no star stands in a list that is checked -/
theorem back_plain {sc : Scope} {pos : Pos} {env : PySem.Env} : ∀ (x : Ex) (es : List Expr), chks T N sc x es = true → (backTo pos (starEach es env)).any (·.1) = false := by
  intro x
  induction x with
  | nil => intro es h; rw [chks_nil h]; rfl
  | cons a b iha ihb =>
    intro es h
    obtain ⟨e, r, rfl, h1, _, h3⟩ := chks_cons h
    rw [star_cons h1]
    show (false || (backTo pos (starEach r env)).any (·.1)) = false
    rw [ihb r h3]
    rfl
  | _ => intro es h; unfold chks at h; cases h
theorem back_all {sc : Scope} {pos : Pos} {env : PySem.Env} : ∀ (x : Ex) (es : List Expr), chks T N sc x es = true → (backTo pos (starEach es env)).all (fun x => !x.1) = true := by
  intro x
  induction x with
  | nil => intro es h; rw [chks_nil h]; rfl
  | cons a b iha ihb =>
    intro es h
    obtain ⟨e, r, rfl, h1, _, h3⟩ := chks_cons h
    rw [star_cons h1]
    show (true && (backTo pos (starEach r env)).all (fun x => !x.1)) = true
    rw [ihb r h3]
    rfl
  | _ => intro es h; unfold chks at h; cases h
end

section
variable {K : PySem.W.Frag} {F : Nat → Option Addr}
/-- the iterator walks these things -/
def Wk (K : PySem.W.Frag) (F : Nat → Option Addr) (Xi : List Addr) (J : It) (w : Itr) (rho0 : Adrs) (H0 : Hp) : Prop :=
  ∀ (Ys : List Addr) (rho1 : Adrs) (H1 : Hp) (h1 : MH) (i : Nat), (∀ b ∈ Ys, b ∈ Xi ∨ H0 b = none) → Sp rho0 H0 rho1 H1 → Rl K F Ys rho1 h1 H1 →
    match w with
    | .things l => (l.length ≤ i → J.stop i H1) ∧ ∀ d, l[i]? = some d → J.go i H1 ∧ ∀ x H2, J.yld i H1 x H2 → Sp rho1 H1 rho1 H2 ∧ Rl K F Ys rho1 h1 H2 ∧ Rep K F Ys rho1 H2 d x
    | .listAt j n => ∀ l, h1[j]? = some (.lst l) → (l.length ≤ i → J.stop i H1) ∧ ∀ d, l[i]? = some d → J.go i H1 ∧ ∀ x H2, J.yld i H1 x H2 → Sp rho1 H1 rho1 H2 ∧ Rl K F Ys rho1 h1 H2 ∧ Rep K F Ys rho1 H2 d x
def RI (K : PySem.W.Frag) (T : Tab) (F : Nat → Option Addr) (k : Nat) (x : Ex) : TI := fun σ H R =>
  ∃ Xi rho σm h d h' w, Rel K F Xi rho σm h σ H ∧ ev (CF T k) x σm h = .ok (d, h') ∧ itrOf d h' = some w ∧ ∀ J H' rho', Sp rho H rho' H' → Rl K F Xi rho' h' H' → Wk K F Xi J w rho' H' → R J H'
theorem wk_list {Xi : List Addr} {rho : Adrs} {H : Hp} {l : List D} {vs : List V} {a : Addr} (h : H a = some (.lst vs)) (n : some a ∉ rho) (x : a ∉ Xi) (r : Reps K F Xi rho H l vs) : Wk K F Xi (Itl K a) (.things l) rho H := by
  intro Ys rho1 H1 h1 i hy s rl
  have h' := s.keep a _ h n
  refine ⟨fun hl => ⟨vs, .of h', by rw [r.length]; exact hl⟩, fun d hd => ?_⟩
  obtain ⟨v, e1, e2⟩ := r.get hd
  refine ⟨⟨vs, v, .of h', e1⟩, fun x H2 y => ?_⟩
  obtain ⟨rfl, yy⟩ := y
  have ev := yy vs (.of h')
  rw [e1] at ev; cases ev
  exact ⟨Sp.refl, rl, Rep.mo s.mo _ _ (Rep.xis hy _ _ e2) |> fun z => z⟩
theorem wk_tup {Xi : List Addr} {rho : Adrs} {H : Hp} {l : List D} {vs : List V} {a : Addr} (h : H a = some (.tup vs)) (n : some a ∉ rho) (x : a ∉ Xi) (r : Reps K F Xi rho H l vs) : Wk K F Xi (Itt K a) (.things l) rho H := by
  intro Ys rho1 H1 h1 i hy s rl
  have h' := s.keep a _ h n
  refine ⟨fun hl => ⟨vs, .of h', by rw [r.length]; exact hl⟩, fun d hd => ?_⟩
  obtain ⟨v, e1, e2⟩ := r.get hd
  refine ⟨⟨vs, v, .of h', e1⟩, fun x H2 y => ?_⟩
  obtain ⟨rfl, yy⟩ := y
  have ev := yy vs (.of h')
  rw [e1] at ev; cases ev
  exact ⟨Sp.refl, rl, Rep.mo s.mo _ _ (Rep.xis hy _ _ e2)⟩
end

section
variable {T : Tab} {F : Nat → Option Addr}
structure Snd (T : Tab) (F : Nat → Option Addr) (x : Ex) : Prop where
  pe : ∀ k X e, Ctx T F k X → chk T X.N false X.env.scope x e = true → PE X e (RE X.K T F k x)
  pa : ∀ k X es, Ctx T F k X → chks T X.N X.env.scope x es = true → PA X es (RA X.K T F k x)
  pt : ∀ k X e, Ctx T F k X → chk T X.N false X.env.scope x e = true → PT X e (RT X.K T F k x)
  pi : ∀ k X tg e, Ctx T F k X → chk T X.N true X.env.scope x e = true → PI X tg e (RI X.K T F k x)
/-- a test by its value -/
theorem pt_of {k : Nat} {X : Cx} {e : Expr} {x : Ex} (p : PE X e (RE X.K T F k x)) (h : plainTest e = true) : PT X e (RT X.K T F k x) := by
  refine ⟨fun pins s σ H Q I hw => (pt_truth p (plain_test h)).run pins s σ H Q I ?_⟩
  obtain ⟨Xi, rho, σm, h0, d, h', t, r, ev, et, q⟩ := hw
  exact ⟨Xi, rho, σm, h0, d, h', r, ev, fun v H' rho' s' rl rd => ⟨t, tru_spec et (rl.rx rd), q H' rho' s' rl⟩⟩
/-- walked by its value: a list or a tuple -/
theorem pi_of {k : Nat} {X : Cx} {tg e : Expr} {x : Ex} (p : PE X e (RE X.K T F k x)) : PI X tg e (RI X.K T F k x) := by
  refine ⟨fun pins s σ H R I hw => ?_⟩
  obtain ⟨Xi, rho, σm, h, d, h', w, r, ev, ei, q⟩ := hw
  cases d with
  | lst l =>
    cases ei
    refine (pi_list p).run pins s σ H R I ⟨Xi, rho, σm, h, _, h', r, ev, fun v H' rho' s' rl rd => ?_⟩
    unfold Rep at rd
    obtain ⟨a, vs, rfl, ha, hn, hx, rr⟩ := rd
    exact ⟨a, rfl, ⟨vs, .of ha⟩, q _ H' rho' s' rl (wk_list ha hn hx rr)⟩
  | tup l =>
    cases ei
    refine (pi_tup p).run pins s σ H R I ⟨Xi, rho, σm, h, _, h', r, ev, fun v H' rho' s' rl rd => ?_⟩
    unfold Rep at rd
    obtain ⟨a, vs, rfl, ha, hn, hx, rr⟩ := rd
    exact ⟨a, rfl, ⟨vs, .of ha⟩, q _ H' rho' s' rl (wk_tup ha hn hx rr)⟩
  | scr l =>
    cases ei
    refine (pi_list p).run pins s σ H R I ⟨Xi, rho, σm, h, _, h', r, ev, fun v H' rho' s' rl rd => ?_⟩
    unfold Rep at rd
    obtain ⟨a, vs, rfl, ha, rr⟩ := rd
    have all : ∀ {H1 rho1}, Sp rho' H' rho1 H1 → SqL X.K H1 a vs := fun {H1 rho1} s => by
      rcases ha with ⟨hr, hn, _⟩ | hk
      · rcases hr with hr | ⟨o, hr⟩
        · exact .inl (.inl (s.keep a _ hr hn))
        · exact .inl (.inr ⟨o, s.keep a _ hr hn⟩)
      · exact .inr hk
    refine ⟨a, rfl, ⟨vs, all Sp.refl⟩, q _ H' rho' s' rl ?_⟩
    intro Ys rho1 H1 h1 i hy s rl1
    refine ⟨fun hl => ⟨vs, all s, by rw [rr.length]; exact hl⟩, fun d hd => ?_⟩
    obtain ⟨v, e1, e2⟩ := rr.get hd
    refine ⟨⟨vs, v, all s, e1⟩, fun x H2 y => ?_⟩
    obtain ⟨rfl, yy⟩ := y
    have ev := yy vs (all s)
    rw [e1] at ev; cases ev
    exact ⟨Sp.refl, rl1, Rep.mo s.mo _ _ (Rep.xis hy _ _ e2)⟩
  | ref j =>
    have ei' : (match h'[j]? with
      | some (.lst l) => some (Itr.listAt j l.length)
      | _ => none) = some w := ei
    cases hj : h'[j]? with
    | none => rw [hj] at ei'; cases ei'
    | some o =>
      rw [hj] at ei'
      cases o with
      | lst l =>
        cases ei'
        refine (pi_list p).run pins s σ H R I ⟨Xi, rho, σm, h, _, h', r, ev, fun v H' rho' s' rl rd => ?_⟩
        obtain ⟨a, ho, rfl, er, ha, c⟩ := rl.thing hj rfl rd
        obtain ⟨vs, rfl, rr⟩ := c
        refine ⟨a, rfl, ⟨vs, .of ha⟩, q _ H' rho' s' rl ?_⟩
        intro Ys rho1 H1 h1 i hy s rl1 l1 hl1
        have hjl : j < rho'.length := (List.getElem?_eq_some_iff.mp er).1
        have live : rho1[j]? = some (some a) := by
          rcases s.pre j hjl with z | z
          · rw [z]; exact er
          · rcases rl1.obj j _ hl1 with ⟨z1, _⟩ | ⟨b, hb, z1, _⟩
            · cases z1
            · rw [z] at z1; cases z1
        obtain ⟨b, hb, z1, z2, z3, _⟩ : ∃ b hb, rho1[j]? = some (some b) ∧ H1 b = some hb ∧ Cont X.K F Ys rho1 H1 (.lst l1) hb ∧ True := by
          rcases rl1.obj j _ hl1 with ⟨z1, _⟩ | ⟨b, hb, z1, z2, z3, _⟩
          · cases z1
          · exact ⟨b, hb, z1, z2, z3, trivial⟩
        rw [live] at z1; cases z1
        obtain ⟨us, rfl, ru⟩ := z3
        refine ⟨fun hl => ⟨us, .of z2, by rw [ru.length]; exact hl⟩, fun d hd => ?_⟩
        obtain ⟨v, e1, e2⟩ := ru.get hd
        refine ⟨⟨us, v, .of z2, e1⟩, fun x H2 y => ?_⟩
        obtain ⟨rfl, yy⟩ := y
        have ev := yy us (.of z2)
        rw [e1] at ev; cases ev
        exact ⟨Sp.refl, rl1, e2⟩
      | _ => cases ei'
  | _ => cases ei
/-- the plain case: a value -/
theorem Snd.of {x : Ex} (pe : ∀ k X e, Ctx T F k X → chk T X.N false X.env.scope x e = true → PE X e (RE X.K T F k x)) (pt : ∀ k X e, Ctx T F k X → chk T X.N false X.env.scope x e = true → PT X e (RT X.K T F k x))
    (na : ∀ N sc es, chks T N sc x es = false) (it : ∀ N sc e, chk T N true sc x e = true → chk T N false sc x e = true) : Snd T F x :=
  ⟨pe, fun k X es C h => (by rw [na] at h; cases h), pt, fun k X tg e C h => pi_of (pe k X e C (it _ _ _ h))⟩
theorem Snd.ofP {x : Ex} (pe : ∀ k X e, Ctx T F k X → chk T X.N false X.env.scope x e = true → PE X e (RE X.K T F k x) ∧ plainTest e = true)
    (na : ∀ N sc es, chks T N sc x es = false) (it : ∀ N sc e, chk T N true sc x e = true → chk T N false sc x e = true) : Snd T F x :=
  Snd.of (fun k X e C h => (pe k X e C h).1) (fun k X e C h => pt_of (pe k X e C h).1 (pe k X e C h).2) na it
theorem vis_of {sc : Scope} {x : Str} (h : visB sc x = true) : Vis sc x := by
  unfold visB at h
  split at h
  · exact .inl (by assumption)
  · exact .inr (.inl (by assumption))
  · exact .inr (.inr (by assumption))
  · cases h
theorem gl_of {X : Cx} {x : Str} (h : glB X.env.scope x = true) : Gl X x ∧ (x == ("__debug__" : Str)) = false := by
  unfold glB at h
  simp only [Bool.and_eq_true, decide_eq_true_eq, Bool.not_eq_true'] at h
  exact ⟨h.1, h.2⟩
theorem nameAt_of {N : List Str} {sc : Scope} {i : Nat} {x : Str} (h : nameAt N sc i x = true) : N[i]? = some x ∧ Vis sc x ∧ (x == ("__debug__" : Str)) = false ∧ (x == ("__classdict__" : Str)) = false := by
  unfold nameAt at h
  simp only [Bool.and_eq_true, decide_eq_true_eq, Bool.not_eq_true'] at h
  exact ⟨h.1.1.1, vis_of h.1.1.2, h.1.2, h.2⟩
/-- a value without a step -/
theorem re_lit {K : PySem.W.Frag} {k : Nat} {x : Ex} {d : D} {v : V} {σ : L2.St} {H : Hp} {Q : VK} (h : RE K T F k x σ H Q) (e : ∀ σm h, ev (CF T k) x σm h = .ok (d, h)) (r : ∀ Xi rho H, Rep K F Xi rho H d v) : Q v H := by
  obtain ⟨Xi, rho, σm, h0, d', h', rel, ev, q⟩ := h
  rw [e] at ev
  cases ev
  exact Post.here q rel.rl (r _ _ _)

theorem snd_var (i : Nat) : Snd T F (.var i) := by
  refine Snd.ofP (fun k X e C h => ?_) (fun _ _ es => by unfold chks; rfl) (fun _ _ _ h => by unfold chk at h ⊢; exact h)
  unfold chk at h
  split at h
  · obtain ⟨h1, h2, h3, h4⟩ := nameAt_of h
    refine ⟨⟨fun pins s σ H Q I hw => (pe_var h1 h2 h3 h4).run pins s σ H Q I ?_⟩, rfl⟩
    obtain ⟨Xi, rho, σm, h0, d, h', rel, ev, q⟩ := hw
    have ev' : (match σm[i]? with
      | some (some d) => (.ok (d, h0) : R (D × MH))
      | _ => .error .stuck) = .ok (d, h') := ev
    split at ev'
    · rename_i d2 e2
      cases ev'
      obtain ⟨v, e3, e4⟩ := rel.en i _ e2
      exact ⟨v, e3, Post.here q rel.rl e4⟩
    · cases ev'
  · cases h
theorem snd_int (i : Int) : Snd T F (.int i) := by
  refine Snd.ofP (fun k X e C h => ?_) (fun _ _ es => by unfold chks; rfl) (fun _ _ _ h => by unfold chk at h ⊢; exact h)
  unfold chk at h
  split at h
  · obtain rfl := of_decide_eq_true h
    exact ⟨⟨fun pins s σ H Q I hw => pe_int.run pins s σ H Q I (re_lit hw (fun _ _ => rfl) fun _ _ _ => by unfold Rep; rfl)⟩, rfl⟩
  · cases h
theorem snd_str (i : Str) : Snd T F (.str i) := by
  refine Snd.ofP (fun k X e C h => ?_) (fun _ _ es => by unfold chks; rfl) (fun _ _ _ h => by unfold chk at h ⊢; exact h)
  unfold chk at h
  split at h
  · obtain rfl := of_decide_eq_true h
    exact ⟨⟨fun pins s σ H Q I hw => pe_str.run pins s σ H Q I (re_lit hw (fun _ _ => rfl) fun _ _ _ => by unfold Rep; rfl)⟩, rfl⟩
  · cases h
theorem snd_bl (i : Bool) : Snd T F (.bl i) := by
  refine Snd.ofP (fun k X e C h => ?_) (fun _ _ es => by unfold chks; rfl) (fun _ _ _ h => by unfold chk at h ⊢; exact h)
  unfold chk at h
  split at h
  · obtain rfl := of_decide_eq_true h
    exact ⟨⟨fun pins s σ H Q I hw => pe_bl.run pins s σ H Q I (re_lit hw (fun _ _ => rfl) fun _ _ _ => by unfold Rep; rfl)⟩, rfl⟩
  · cases h
theorem snd_non : Snd T F .non := by
  refine Snd.ofP (fun k X e C h => ?_) (fun _ _ es => by unfold chks; rfl) (fun _ _ _ h => by unfold chk at h ⊢; exact h)
  unfold chk at h
  split at h
  · exact ⟨⟨fun pins s σ H Q I hw => pe_non.run pins s σ H Q I (re_lit hw (fun _ _ => rfl) fun _ _ _ => by unfold Rep; rfl)⟩, rfl⟩
  · cases h
theorem snd_gint (x : Str) (i : Int) : Snd T F (.gint x i) := by
  refine Snd.ofP (fun k X e C h => ?_) (fun _ _ es => by unfold chks; rfl) (fun _ _ _ h => by unfold chk at h ⊢; exact h)
  unfold chk at h
  split at h
  · simp only [Bool.and_eq_true, decide_eq_true_eq] at h
    obtain ⟨⟨rfl, h2⟩, h3⟩ := h
    obtain ⟨t, ht⟩ := C.cst _ _ h3
    refine ⟨⟨fun pins s σ H Q I hw => (pe_glob (v := .int i) (gl_of h2).1 ht ⟨t, rfl⟩ (gl_of h2).2).run pins s σ H Q I (re_lit hw (fun _ _ => rfl) fun _ _ _ => by unfold Rep; rfl)⟩, rfl⟩
  · cases h
theorem snd_gfn (x : Str) (f : Nat) : Snd T F (.gfn x f) := by
  refine Snd.ofP (fun k X e C h => ?_) (fun _ _ es => by unfold chks; rfl) (fun _ _ _ h => by unfold chk at h ⊢; exact h)
  unfold chk at h
  split at h
  · simp only [Bool.and_eq_true, decide_eq_true_eq] at h
    obtain ⟨⟨rfl, h2⟩, h3⟩ := h
    obtain ⟨a, ha, hm⟩ := C.nms _ _ h3
    refine ⟨⟨fun pins s σ H Q I hw => (pe_glob (v := .ref a) (gl_of h2).1 hm rfl (gl_of h2).2).run pins s σ H Q I (re_lit hw (fun _ _ => rfl) fun _ _ _ => by unfold Rep; exact ⟨a, rfl, ha⟩)⟩, rfl⟩
  · cases h
/-- two values in a row -/
theorem re2 {K : PySem.W.Frag} {k : Nat} {a b : Ex} {σ : L2.St} {H : Hp} {Xi : List Addr} {rho : Adrs} {σm : Env} {h h1 h2 : MH} {x y : D} {R : V → V → Hp → Prop} (r : Rel K F Xi rho σm h σ H)
    (e1 : ev (CF T k) a σm h = .ok (x, h1)) (e2 : ev (CF T k) b σm h1 = .ok (y, h2))
    (q : ∀ v u H2 rho2, Sp rho H rho2 H2 → Rel K F Xi rho2 σm h2 σ H2 → Rep K F Xi rho2 H2 x v → Rep K F Xi rho2 H2 y u → R v u H2) :
    RE K T F k a σ H fun v H1 => RE K T F k b σ H1 fun u H2 => R v u H2 :=
  re1 r e1 fun v H1 rho1 s1 r1 rv => re1 r1 e2 fun u H2 rho2 s2 r2 ru => q v u H2 rho2 (s1.trans s2) r2 (Rep.mo s2.mo _ _ rv) ru
theorem snd_bin (o : BOp) (m : Bool) {a b : Ex} (A : Snd T F a) (B : Snd T F b) : Snd T F (.bin o m a b) := by
  refine Snd.ofP (fun k X e C h => ?_) (fun _ _ es => by unfold chks; rfl) (fun _ _ _ h => by unfold chk at h ⊢; exact h)
  unfold chk at h
  split at h
  · simp only [Bool.and_eq_true, decide_eq_true_eq] at h
    obtain ⟨⟨rfl, h2⟩, h3⟩ := h
    refine ⟨⟨fun pins s σ H Q I hw => (pe_op (op_bin (F := F) o m) (A.pe k X _ C h2) (B.pe k X _ C h3)).run pins s σ H Q I ?_⟩, rfl⟩
    obtain ⟨Xi, rho, σm, h0, d, h', rel, ev, q⟩ := hw
    obtain ⟨x, h1, e1, ev⟩ := bnd_inv ev
    obtain ⟨y, h2, e2, ev⟩ := bnd_inv ev
    exact re2 rel e1 e2 fun v u H2 rho2 s2 r2 rv ru => ⟨Xi, rho2, h2, x, y, d, h', r2.rl, rv, ru, ev, q.on s2⟩
  · cases h
theorem snd_neg {a : Ex} (A : Snd T F a) : Snd T F (.neg a) := by
  refine Snd.ofP (fun k X e C h => ?_) (fun _ _ es => by unfold chks; rfl) (fun _ _ _ h => by unfold chk at h ⊢; exact h)
  unfold chk at h
  split at h
  · refine ⟨⟨fun pins s σ H Q I hw => (pe_un un_neg (A.pe k X _ C h)).run pins s σ H Q I ?_⟩, rfl⟩
    obtain ⟨Xi, rho, σm, h0, d, h', rel, ev, q⟩ := hw
    obtain ⟨x, h1, e1, ev⟩ := bnd_inv ev
    cases x with
    | int i =>
      cases ev
      exact re1 rel e1 fun v H1 rho1 s1 r1 rv => ⟨i, rv.eint, (q.on s1).here r1.rl (by unfold Rep; rfl)⟩
    | _ => cases ev
  · cases h
theorem snd_cmp (o : COp) {a b : Ex} (A : Snd T F a) (B : Snd T F b) : Snd T F (.cmp o a b) := by
  have red : ∀ {k : Nat} {X : Cx} {Q : VK} {σ : L2.St} {H : Hp}, RE X.K T F k (.cmp o a b) σ H Q → tOp (rC X.K F o) (RE X.K T F k a) (RE X.K T F k b) σ H Q := fun {k X Q σ H} hw => by
    obtain ⟨Xi, rho, σm, h0, d, h', rel, ev, q⟩ := hw
    obtain ⟨x, h1, e1, ev⟩ := bnd_inv ev
    obtain ⟨y, h2, e2, ev⟩ := bnd_inv ev
    obtain ⟨t, et, ev⟩ := opt_inv ev
    cases ev
    exact re2 rel e1 e2 fun v u H2 rho2 s2 r2 rv ru => ⟨Xi, rho2, _, _, t, r2.rl.rx rv, r2.rl.rx ru, et, (q.on s2).here r2.rl (by unfold Rep; rfl)⟩
  refine Snd.of (fun k X e C h => ?_) (fun k X e C h => ?_) (fun _ _ es => by unfold chks; rfl) (fun _ _ _ h => by unfold chk at h ⊢; exact h)
  · unfold chk at h
    split at h
    · simp only [Bool.and_eq_true, decide_eq_true_eq, Bool.not_eq_true'] at h
      obtain ⟨⟨⟨rfl, hm⟩, h2⟩, h3⟩ := h
      exact ⟨fun pins s σ H Q I hw => (pe_cmpR (op_cmp (F := F) C.un o) (A.pe k X _ C h2) (B.pe k X _ C h3) hm).run pins s σ H Q I (red hw)⟩
    · cases h
  · unfold chk at h
    split at h
    · simp only [Bool.and_eq_true, decide_eq_true_eq, Bool.not_eq_true'] at h
      obtain ⟨⟨⟨rfl, hm⟩, h2⟩, h3⟩ := h
      refine ⟨fun pins s σ H Q I hw => (pt_cmpR (op_cmp (F := F) C.un o) (A.pe k X _ C h2) (B.pe k X _ C h3) hm).run pins s σ H Q I ?_⟩
      obtain ⟨Xi, rho, σm, h0, d, h', t, r, ev, et, q⟩ := hw
      refine red (Q := fun x H' => ∃ k, x = .bl k ∧ Q k H') ⟨Xi, rho, σm, h0, d, h', r, ev, fun v H' rho' s' rl rd => ?_⟩
      obtain ⟨x, h1, e1, ev⟩ := bnd_inv ev
      obtain ⟨y, h2, e2, ev⟩ := bnd_inv ev
      obtain ⟨t', et', ev⟩ := opt_inv ev
      cases ev
      cases et
      exact ⟨_, rd.ebl, q H' rho' s' rl⟩
    · cases h
theorem snd_chain (o p : COp) {a b c : Ex} (A : Snd T F a) (B : Snd T F b) (D' : Snd T F c) : Snd T F (.chain o p a b c) := by
  have red : ∀ {k : Nat} {X : Cx} {Q : VK} {σ : L2.St} {H : Hp}, RE X.K T F k (.chain o p a b c) σ H Q → tChain (rC X.K F o) (rC X.K F p) (RE X.K T F k a) (RE X.K T F k b) (RE X.K T F k c) σ H Q := fun {k X Q σ H} hw => by
    obtain ⟨Xi, rho, σm, h0, d, h', rel, ev, q⟩ := hw
    obtain ⟨x, h1, e1, ev⟩ := bnd_inv ev
    obtain ⟨y, h2, e2, ev⟩ := bnd_inv ev
    obtain ⟨t, et, ev⟩ := opt_inv ev
    refine re2 rel e1 e2 fun v u H2 rho2 s2 r2 rv ru => ⟨Xi, rho2, _, _, t, r2.rl.rx rv, r2.rl.rx ru, et, t, rfl, ?_⟩
    cases t with
    | false =>
      cases ev
      exact (q.on s2).here r2.rl (by unfold Rep; rfl)
    | true =>
      obtain ⟨z, h3, e3, ev⟩ := bnd_inv (show bnd _ _ = _ from ev)
      obtain ⟨t2, et2, ev⟩ := opt_inv ev
      cases ev
      exact re1 r2 e3 fun w H3 rho3 s3 r3 rw' => ⟨Xi, rho3, _, _, t2, r3.rl.rx (Rep.mo s3.mo _ _ ru), r3.rl.rx rw', et2, ((q.on s2).on s3).here r3.rl (by unfold Rep; rfl)⟩
  refine Snd.of (fun k X e C h => ?_) (fun k X e C h => ?_) (fun _ _ es => by unfold chks; rfl) (fun _ _ _ h => by unfold chk at h ⊢; exact h)
  · unfold chk at h
    split at h
    · simp only [Bool.and_eq_true, decide_eq_true_eq, Bool.not_eq_true'] at h
      obtain ⟨⟨⟨⟨⟨rfl, rfl⟩, hm⟩, h2⟩, h3⟩, h4⟩ := h
      exact ⟨fun pins s σ H Q I hw => (pe_chain (op_cmp (F := F) C.un o) (op_cmp (F := F) C.un p) (A.pe k X _ C h2) (B.pe k X _ C h3) (D'.pe k X _ C h4) hm).run pins s σ H Q I (red hw)⟩
    · cases h
  · unfold chk at h
    split at h
    · simp only [Bool.and_eq_true, decide_eq_true_eq, Bool.not_eq_true'] at h
      obtain ⟨⟨⟨⟨⟨rfl, rfl⟩, hm⟩, h2⟩, h3⟩, h4⟩ := h
      refine ⟨fun pins s σ H Q I hw => (pt_chain (op_cmp (F := F) C.un o) (op_cmp (F := F) C.un p) (A.pe k X _ C h2) (B.pe k X _ C h3) (D'.pe k X _ C h4) hm).run pins s σ H Q I ?_⟩
      obtain ⟨Xi, rho, σm, h0, d, h', t, r, ev, et, q⟩ := hw
      refine red (Q := fun x H' => ∃ k, x = .bl k ∧ Q k H') ⟨Xi, rho, σm, h0, d, h', r, ev, fun v H' rho' s' rl rd => ?_⟩
      have bl : ∃ b, d = .bl b := by
        obtain ⟨x, h1, e1, ev⟩ := bnd_inv ev
        obtain ⟨y, h2, e2, ev⟩ := bnd_inv ev
        obtain ⟨t', et', ev⟩ := opt_inv ev
        cases t' with
        | false => cases ev; exact ⟨_, rfl⟩
        | true =>
          obtain ⟨z, h3, e3, ev⟩ := bnd_inv (show bnd _ _ = _ from ev)
          obtain ⟨t2, et2, ev⟩ := opt_inv ev
          cases ev; exact ⟨_, rfl⟩
      obtain ⟨b, rfl⟩ := bl
      cases et
      exact ⟨_, rd.ebl, q H' rho' s' rl⟩
    · cases h
end
end Mi
/-! Mi over the layer: expressions, further. -/
namespace Mi
open PySem PySem.Spec PyProof.Rows L2
section
variable {T : Tab} {F : Nat → Option Addr}
/-- the end of a branch: what is wanted is handed on -/
theorem re_go {K : PySem.W.Frag} {k : Nat} {a : Ex} {σ : L2.St} {H : Hp} {Xi : List Addr} {rho : Adrs} {σm : Env} {h h' : MH} {d : D} {Q : VK} (r : Rel K F Xi rho σm h σ H) (e : ev (CF T k) a σm h = .ok (d, h')) (q : Post K F Xi rho H d h' Q) : RE K T F k a σ H Q :=
  ⟨Xi, rho, σm, h, d, h', r, e, q⟩
theorem snd_andd {a b : Ex} (A : Snd T F a) (B : Snd T F b) : Snd T F (.andd a b) := by
  refine Snd.of (fun k X e C h => ?_) (fun k X e C h => ?_) (fun _ _ es => by unfold chks; rfl) (fun _ _ _ h => by unfold chk at h ⊢; exact h)
  · unfold chk at h
    split at h
    · simp only [Bool.and_eq_true] at h
      refine ⟨fun pins s σ H Q I hw => (pe_andT (A.pe k X _ C h.1) (B.pe k X _ C h.2)).run pins s σ H Q I ?_⟩
      obtain ⟨Xi, rho, σm, h0, d, h', rel, ev, q⟩ := hw
      obtain ⟨x, h1, e1, ev⟩ := bnd_inv ev
      obtain ⟨t, et, ev⟩ := opt_inv ev
      refine re1 rel e1 fun v H1 rho1 s1 r1 rv => ⟨t, tru_spec et (r1.rl.rx rv), ?_⟩
      cases t with
      | true => exact re_go r1 ev (q.on s1)
      | false => cases ev; exact (q.on s1).here r1.rl rv
    · cases h
  · unfold chk at h
    split at h
    · simp only [Bool.and_eq_true] at h
      have pb := B.pt k X _ C h.2
      refine ⟨fun pins s σ H Q I hw => ?_⟩
      obtain ⟨Xi, rho, σm, h0, d, h', t, rel, ev, et0, q⟩ := hw
      obtain ⟨x, h1, e1, ev⟩ := bnd_inv ev
      obtain ⟨t1, et, ev⟩ := opt_inv ev
      refine isTrue_and (thn ((A.pt k X _ C h.1).run pins s σ H (fun c H1 => c = t1 ∧ if t1 = true then RT X.K T F k b σ H1 Q else Q false H1) I ⟨Xi, rho, σm, h0, x, h1, t1, rel, e1, et, fun H1 rho1 s1 rl1 => ⟨rfl, ?_⟩⟩) fun c s1 ⟨H1, I1, ec, q1⟩ => ?_)
      · cases t1 with
        | true => exact ⟨Xi, rho1, σm, h1, d, h', t, rel.on s1 rl1, ev, et0, fun H2 rho2 s2 rl2 => q H2 rho2 (s1.trans s2) rl2⟩
        | false =>
          cases ev
          rw [et] at et0; cases et0
          exact q H1 rho1 s1 rl1
      · subst ec
        cases c with
        | true => exact pb.run pins s1 σ H1 Q I1 q1
        | false => exact ⟨H1, I1, q1⟩
    · cases h
theorem snd_orr {a b : Ex} (A : Snd T F a) (B : Snd T F b) : Snd T F (.orr a b) := by
  refine Snd.of (fun k X e C h => ?_) (fun k X e C h => ?_) (fun _ _ es => by unfold chks; rfl) (fun _ _ _ h => by unfold chk at h ⊢; exact h)
  · unfold chk at h
    split at h
    · simp only [Bool.and_eq_true] at h
      refine ⟨fun pins s σ H Q I hw => (pe_orT (A.pe k X _ C h.1) (B.pe k X _ C h.2)).run pins s σ H Q I ?_⟩
      obtain ⟨Xi, rho, σm, h0, d, h', rel, ev, q⟩ := hw
      obtain ⟨x, h1, e1, ev⟩ := bnd_inv ev
      obtain ⟨t, et, ev⟩ := opt_inv ev
      refine re1 rel e1 fun v H1 rho1 s1 r1 rv => ⟨t, tru_spec et (r1.rl.rx rv), ?_⟩
      cases t with
      | false => exact re_go r1 ev (q.on s1)
      | true => cases ev; exact (q.on s1).here r1.rl rv
    · cases h
  · unfold chk at h
    split at h
    · simp only [Bool.and_eq_true] at h
      have pb := B.pt k X _ C h.2
      refine ⟨fun pins s σ H Q I hw => ?_⟩
      obtain ⟨Xi, rho, σm, h0, d, h', t, rel, ev, et0, q⟩ := hw
      obtain ⟨x, h1, e1, ev⟩ := bnd_inv ev
      obtain ⟨t1, et, ev⟩ := opt_inv ev
      refine isTrue_or (thn ((A.pt k X _ C h.1).run pins s σ H (fun c H1 => c = t1 ∧ if t1 = true then Q true H1 else RT X.K T F k b σ H1 Q) I ⟨Xi, rho, σm, h0, x, h1, t1, rel, e1, et, fun H1 rho1 s1 rl1 => ⟨rfl, ?_⟩⟩) fun c s1 ⟨H1, I1, ec, q1⟩ => ?_)
      · cases t1 with
        | false => exact ⟨Xi, rho1, σm, h1, d, h', t, rel.on s1 rl1, ev, et0, fun H2 rho2 s2 rl2 => q H2 rho2 (s1.trans s2) rl2⟩
        | true =>
          cases ev
          rw [et] at et0; cases et0
          exact q H1 rho1 s1 rl1
      · subst ec
        cases c with
        | false => exact pb.run pins s1 σ H1 Q I1 q1
        | true => exact ⟨H1, I1, q1⟩
    · cases h
theorem snd_one {a : Ex} (A : Snd T F a) : Snd T F (.one a) := by
  refine Snd.of (fun k X e C h => ?_) (fun k X e C h => ?_) (fun _ _ es => by unfold chks; rfl) (fun _ _ _ h => by unfold chk at h ⊢; exact h)
  · unfold chk at h
    split at h
    · exact ⟨fun pins s σ H Q I hw => (pe_one (A.pe k X _ C h)).run pins s σ H Q I hw⟩
    · cases h
  · unfold chk at h
    split at h
    · rename_i op x pos
      refine ⟨fun pins s σ H Q I hw => ?_⟩
      have hw' : RT X.K T F k a σ H Q := hw
      have p := A.pt k X _ C h
      cases op with
      | And => exact (pw_and1 p).pt.run pins s σ H Q I hw'
      | Or => exact (pw_or1 p).pt.run pins s σ H Q I hw'
    · cases h
theorem snd_nott {a : Ex} (A : Snd T F a) : Snd T F (.nott a) := by
  refine Snd.of (fun k X e C h => ?_) (fun k X e C h => ?_) (fun _ _ es => by unfold chks; rfl) (fun _ _ _ h => by unfold chk at h ⊢; exact h)
  · unfold chk at h
    split at h
    · refine ⟨fun pins s σ H Q I hw => (pe_notT (A.pe k X _ C h)).run pins s σ H Q I ?_⟩
      obtain ⟨Xi, rho, σm, h0, d, h', rel, ev, q⟩ := hw
      obtain ⟨x, h1, e1, ev⟩ := bnd_inv ev
      obtain ⟨t, et, ev⟩ := opt_inv ev
      cases ev
      exact re1 rel e1 fun v H1 rho1 s1 r1 rv => ⟨t, tru_spec et (r1.rl.rx rv), (q.on s1).here r1.rl (by unfold Rep; rfl)⟩
    · cases h
  · unfold chk at h
    split at h
    · refine ⟨fun pins s σ H Q I hw => (pt_not (A.pt k X _ C h)).run pins s σ H Q I ?_⟩
      obtain ⟨Xi, rho, σm, h0, d, h', t0, rel, ev, et0, q⟩ := hw
      obtain ⟨x, h1, e1, ev⟩ := bnd_inv ev
      obtain ⟨t, et, ev⟩ := opt_inv ev
      cases ev
      cases et0
      exact ⟨Xi, rho, σm, h0, x, _, t, rel, e1, et, q⟩
    · cases h
theorem snd_ite {c a b : Ex} (C' : Snd T F c) (A : Snd T F a) (B : Snd T F b) : Snd T F (.ite c a b) := by
  refine Snd.of (fun k X e C h => ?_) (fun k X e C h => ?_) (fun _ _ es => by unfold chks; rfl) (fun _ _ _ h => by unfold chk at h ⊢; exact h)
  · unfold chk at h
    split at h
    · simp only [Bool.and_eq_true] at h
      refine ⟨fun pins s σ H Q I hw => (pe_ifExp (C'.pt k X _ C h.1.1) (A.pe k X _ C h.1.2) (B.pe k X _ C h.2)).run pins s σ H Q I ?_⟩
      obtain ⟨Xi, rho, σm, h0, d, h', rel, ev, q⟩ := hw
      obtain ⟨x, h1, e1, ev⟩ := bnd_inv ev
      obtain ⟨t, et, ev⟩ := opt_inv ev
      refine ⟨Xi, rho, σm, h0, x, h1, t, rel, e1, et, fun H1 rho1 s1 rl1 => ?_⟩
      cases t with
      | true => exact re_go (rel.on s1 rl1) ev (q.on s1)
      | false => exact re_go (rel.on s1 rl1) ev (q.on s1)
    · cases h
  · unfold chk at h
    split at h
    · simp only [Bool.and_eq_true] at h
      have pa := A.pt k X _ C h.1.2
      have pb := B.pt k X _ C h.2
      refine ⟨fun pins s σ H Q I hw => ?_⟩
      obtain ⟨Xi, rho, σm, h0, d, h', t0, rel, ev, et0, q⟩ := hw
      obtain ⟨x, h1, e1, ev⟩ := bnd_inv ev
      obtain ⟨t, et, ev⟩ := opt_inv ev
      refine isTrue_IfExp (thn ((C'.pt k X _ C h.1.1).run pins s σ H (fun c H1 => c = t ∧ if t = true then RT X.K T F k a σ H1 Q else RT X.K T F k b σ H1 Q) I ⟨Xi, rho, σm, h0, x, h1, t, rel, e1, et, fun H1 rho1 s1 rl1 => ⟨rfl, ?_⟩⟩) fun c s1 ⟨H1, I1, ec, q1⟩ => ?_)
      · cases t with
        | true => exact ⟨Xi, rho1, σm, h1, d, h', t0, rel.on s1 rl1, ev, et0, fun H2 rho2 s2 rl2 => q H2 rho2 (s1.trans s2) rl2⟩
        | false => exact ⟨Xi, rho1, σm, h1, d, h', t0, rel.on s1 rl1, ev, et0, fun H2 rho2 s2 rl2 => q H2 rho2 (s1.trans s2) rl2⟩
      · subst ec
        cases c with
        | true => exact pa.run pins s1 σ H1 Q I1 q1
        | false => exact pb.run pins s1 σ H1 Q I1 q1
    · cases h
/-! ### lists of arguments -/
theorem snd_nil : Snd T F .nil := by
  refine ⟨fun k X e C h => (by unfold chk at h; cases h), fun k X es C h => ?_, fun k X e C h => (by unfold chk at h; cases h), fun k X tg e C h => (by unfold chk at h; cases h)⟩
  rw [chks_nil h]
  refine ⟨fun pos pins s σ H Q I hw => pa_nil.run pos pins s σ H Q I ?_⟩
  obtain ⟨Xi, rho, σm, h0, l, h', rel, ev, q⟩ := hw
  cases ev
  exact q [] H rho Sp.refl rel.rl Reps.nil'
theorem snd_cons {a b : Ex} (A : Snd T F a) (B : Snd T F b) : Snd T F (.cons a b) := by
  refine ⟨fun k X e C h => (by unfold chk at h; cases h), fun k X es C h => ?_, fun k X e C h => (by unfold chk at h; cases h), fun k X tg e C h => (by unfold chk at h; cases h)⟩
  obtain ⟨e, r, rfl, h1, h2, h3⟩ := chks_cons h
  refine ⟨fun pos pins s σ H Q I hw => (pa_cons (A.pe k X _ C h2) (B.pa k X _ C h3) (star_cons h1)).run pos pins s σ H Q I ?_⟩
  obtain ⟨Xi, rho, σm, h0, l, h', rel, ev, q⟩ := hw
  obtain ⟨x, h1, e1, ev⟩ := bnd_inv ev
  obtain ⟨y, h2, e2, ev⟩ := bnd_inv ev
  cases y with
  | tup r =>
    cases ev
    exact re1 rel e1 fun v H1 rho1 s1 r1 rv => ⟨Xi, rho1, σm, h1, r, _, r1, e2, fun vs H2 rho2 s2 rl2 rr => q _ H2 rho2 (s1.trans s2) rl2 (Reps.cons' (Rep.mo s2.mo _ _ rv) rr)⟩
  | _ => cases ev
theorem snd_tup {es : Ex} (A : Snd T F es) : Snd T F (.tup es) := by
  refine Snd.ofP (fun k X e C h => ?_) (fun _ _ es => by unfold chks; rfl) (fun _ _ _ h => by unfold chk at h ⊢; exact h)
  unfold chk at h
  split at h
  · refine ⟨⟨fun pins s σ H Q I hw => (pe_tup (A.pa k X _ C h)).run pins s σ H Q I ?_⟩, rfl⟩
    obtain ⟨Xi, rho, σm, h0, d, h', rel, ev, q⟩ := hw
    obtain ⟨x, h1, e1, ev⟩ := bnd_inv ev
    cases x with
    | tup l =>
      obtain ⟨hz, ev⟩ := grd_inv ev
      cases ev
      exact ⟨Xi, rho, σm, h0, l, _, rel, e1, fun vs H1 rho1 s1 rl1 rr => ⟨by rw [rr.length]; exact of_decide_eq_true hz, tup_new rl1 rr (q.on s1)⟩⟩
    | _ => cases ev
  · cases h
theorem snd_lst (m : Bool) {es : Ex} (A : Snd T F es) : Snd T F (.lst m es) := by
  refine Snd.ofP (fun k X e C h => ?_) (fun _ _ es => by unfold chks; rfl) (fun _ _ _ h => by unfold chk at h ⊢; exact h)
  unfold chk at h
  split at h
  · refine ⟨⟨fun pins s σ H Q I hw => (pe_lst (A.pa k X _ C h)).run pins s σ H Q I ?_⟩, rfl⟩
    obtain ⟨Xi, rho, σm, h0, d, h', rel, ev, q⟩ := hw
    obtain ⟨x, h1, e1, ev⟩ := bnd_inv ev
    cases x with
    | tup l =>
      obtain ⟨hz, ev⟩ := grd_inv ev
      exact ⟨Xi, rho, σm, h0, l, _, rel, e1, fun vs H1 rho1 s1 rl1 rr => ⟨by rw [rr.length]; exact of_decide_eq_true hz, alc_new rl1 (Cont.l rr) ev (q.on s1)⟩⟩
    | _ => cases ev
  · cases h
theorem snd_dct (m t : Bool) : Snd T F (.dct m t) := by
  refine Snd.ofP (fun k X e C h => ?_) (fun _ _ es => by unfold chks; rfl) (fun _ _ _ h => by unfold chk at h ⊢; exact h)
  unfold chk at h
  split at h
  · cases t with
    | false =>
      refine ⟨⟨fun pins s σ H Q I hw => pe_dnewK.run pins s σ H Q I ?_⟩, rfl⟩
      obtain ⟨Xi, rho, σm, h0, d, h', rel, ev, q⟩ := hw
      exact alc_new rel.rl (Cont.k (ks := []) (vs := []) rfl Reps.nil') ev q
    | true =>
      refine ⟨⟨fun pins s σ H Q I hw => pe_dnewT.run pins s σ H Q I ?_⟩, rfl⟩
      obtain ⟨Xi, rho, σm, h0, d, h', rel, ev, q⟩ := hw
      exact alc_new rel.rl (Cont.t (ks := []) (vs := []) rfl Reps.nil') ev q
  · cases h
theorem snd_frz {a : Ex} (A : Snd T F a) : Snd T F (.frz a) := by
  have pe_ : ∀ k X e, Ctx T F k X → chk T X.N false X.env.scope (.frz a) e = true → PE X e (RE X.K T F k (.frz a)) := fun k X e C h => by
    unfold chk at h
    refine ⟨fun pins s σ H Q I hw => (A.pe k X _ C h).run pins s σ H Q I ?_⟩
    obtain ⟨Xi, rho, σm, h0, d, h', rel, ev, q⟩ := hw
    obtain ⟨x, h1, e1, ev⟩ := bnd_inv ev
    refine re1 rel e1 fun v H1 rho1 s1 r1 rv => ?_
    have plain : frzV h1 x = .ok (x, h1) → Q v H1 := fun e => by
      rw [e] at ev; cases ev
      exact (q.on s1).here r1.rl rv
    cases x with
    | ref i =>
      have ev' : (match h1[i]? with
        | some d => if isObj d then (.ok (d, h1.set i .non) : R (D × MH)) else .error .stuck
        | none => .error .stuck) = .ok (d, h') := ev
      cases hi : h1[i]? with
      | none => rw [hi] at ev'; cases ev'
      | some o =>
        rw [hi] at ev'
        have ev2 : (if isObj o then (.ok (o, h1.set i .non) : R (D × MH)) else .error .stuck) = .ok (d, h') := ev'
        split at ev2
        · rename_i io
          cases ev2
          obtain ⟨p, ho, rfl, er, hp, c⟩ := r1.rl.thing hi io rv
          have hlt : i < h1.length := (List.getElem?_eq_some_iff.mp hi).1
          have hlr : i < rho1.length := (List.getElem?_eq_some_iff.mp er).1
          have sp : Sp rho1 H1 (rho1.set i none) H1 := by
            refine ⟨fun _ _ e _ => e, by rw [List.length_set]; exact Nat.le_refl _, fun j hj => ?_, fun b hb => ?_⟩
            · by_cases z : i = j
              · subst z; exact .inr (List.getElem?_set_self hlr)
              · exact .inl (List.getElem?_set_ne z)
            · rcases List.mem_or_eq_of_mem_set hb with z | z
              · exact .inl z
              · cases z
          have out : some p ∉ rho1.set i none := fun z => by
            obtain ⟨j, hj⟩ := List.mem_iff_getElem?.mp z
            by_cases y : i = j
            · subst y; rw [List.getElem?_set_self hlr] at hj; cases hj
            · rw [List.getElem?_set_ne y] at hj
              exact y (r1.rl.inj i j p er hj)
          have nx : p ∉ Xi := fun z => (r1.rl.xi p z).2 (List.mem_of_getElem? er)
          have rl2 : Rl X.K F Xi (rho1.set i none) (h1.set i .non) H1 := by
            refine ⟨by rw [List.length_set, List.length_set]; exact r1.rl.len, fun x y b hx hy => ?_, fun b hb => ⟨(r1.rl.xi b hb).1, fun z => ?_⟩, fun j u eu => ?_⟩
            · have g : ∀ {x : Nat}, (rho1.set i none)[x]? = some (some b) → rho1[x]? = some (some b) := fun {x} hx => by
                by_cases y : i = x
                · subst y; rw [List.getElem?_set_self hlr] at hx; cases hx
                · rw [List.getElem?_set_ne y] at hx; exact hx
              exact r1.rl.inj x y b (g hx) (g hy)
            · rcases List.mem_or_eq_of_mem_set z with w | w
              · exact (r1.rl.xi b hb).2 w
              · cases w
            · by_cases y : i = j
              · subst y
                rw [List.getElem?_set_self hlt] at eu
                cases eu
                exact .inl ⟨rfl, List.getElem?_set_self hlr⟩
              · rw [List.getElem?_set_ne y] at eu
                rcases r1.rl.obj j u eu with ⟨z1, z2⟩ | ⟨b, hb, z1, z2, z3, z4⟩
                · exact .inl ⟨z1, by rw [List.getElem?_set_ne y]; exact z2⟩
                · exact .inr ⟨b, hb, by rw [List.getElem?_set_ne y]; exact z1, z2, z3.mo sp.mo, z4⟩
          exact (q.on s1) _ H1 _ sp rl2 (Rep.ofCont (c.mo sp.mo) hp out nx)
        · cases ev2
    | _ => exact plain rfl
  refine ⟨pe_, fun k X es C h => (by unfold chks at h; cases h), fun k X e C h => ?_, fun k X tg e C h => pi_of (pe_ k X e C (by unfold chk at h ⊢; exact h))⟩
  -- as a test: what is frozen is no test
  refine ⟨fun pins s σ H Q I hw => ?_⟩
  have p := A.pt k X e C (by unfold chk at h; exact h)
  obtain ⟨Xi, rho, σm, h0, d, h', t, rel, ev, et, q⟩ := hw
  obtain ⟨x, h1, e1, ev⟩ := bnd_inv ev
  have plain : frzV h1 x = .ok (x, h1) → wpAny (model X.prog X.w) X.A (isTrue e X.env (eval e X.env)) (TP X pins σ Q) X.xe s := fun ef => by
    rw [ef] at ev; cases ev
    exact p.run pins s σ H Q I ⟨Xi, rho, σm, h0, _, _, t, rel, e1, et, q⟩
  cases x with
  | ref i =>
    have ev' : (match h1[i]? with
      | some d => if isObj d then (.ok (d, h1.set i .non) : R (D × MH)) else .error .stuck
      | none => .error .stuck) = .ok (d, h') := ev
    cases hi : h1[i]? with
    | none => rw [hi] at ev'; cases ev'
    | some o =>
      rw [hi] at ev'
      have ev2 : (if isObj o then (.ok (o, h1.set i .non) : R (D × MH)) else .error .stuck) = .ok (d, h') := ev'
      split at ev2
      · rename_i io
        cases ev2
        have dr : deref h1 (.ref i) = d := by
          show (match h1[i]? with | some d => if isObj d = true then d else D.ref i | none => .ref i) = _
          rw [hi]
          exact if_pos io
        have dd : deref (h1.set i .non) d = d := by cases d <;> first | rfl | cases io
        rw [dd] at et
        refine p.run pins s σ H Q I ⟨Xi, rho, σm, h0, _, _, t, rel, e1, by rw [dr]; exact et, fun H1 rho1 s1 rl1 => ?_⟩
        -- the heap is as before; the small one is let go
        have hlt : i < h1.length := (List.getElem?_eq_some_iff.mp hi).1
        have hlr : i < rho1.length := by rw [rl1.len]; exact hlt
        have sp : Sp rho1 H1 (rho1.set i none) H1 := by
          refine ⟨fun _ _ e _ => e, by rw [List.length_set]; exact Nat.le_refl _, fun j hj => ?_, fun b hb => ?_⟩
          · by_cases z : i = j
            · subst z; exact .inr (List.getElem?_set_self hlr)
            · exact .inl (List.getElem?_set_ne z)
          · rcases List.mem_or_eq_of_mem_set hb with z | z
            · exact .inl z
            · cases z
        refine q H1 _ (s1.trans sp) ⟨by rw [List.length_set, List.length_set]; exact rl1.len, fun x y b hx hy => ?_, fun b hb => ⟨(rl1.xi b hb).1, fun z => ?_⟩, fun j u eu => ?_⟩
        · have g : ∀ {x : Nat}, (rho1.set i none)[x]? = some (some b) → rho1[x]? = some (some b) := fun {x} hx => by
            by_cases y : i = x
            · subst y; rw [List.getElem?_set_self hlr] at hx; cases hx
            · rw [List.getElem?_set_ne y] at hx; exact hx
          exact rl1.inj x y b (g hx) (g hy)
        · rcases List.mem_or_eq_of_mem_set z with w | w
          · exact (rl1.xi b hb).2 w
          · cases w
        · by_cases y : i = j
          · subst y
            rw [List.getElem?_set_self hlt] at eu
            cases eu
            exact .inl ⟨rfl, List.getElem?_set_self hlr⟩
          · rw [List.getElem?_set_ne y] at eu
            rcases rl1.obj j u eu with ⟨z1, z2⟩ | ⟨b, hb, z1, z2, z3, z4⟩
            · exact .inl ⟨z1, by rw [List.getElem?_set_ne y]; exact z2⟩
            · exact .inr ⟨b, hb, by rw [List.getElem?_set_ne y]; exact z1, z2, z3.mo sp.mo, z4⟩
      · cases ev2
  | _ => exact plain rfl
end
end Mi
/-! Mi over the layer: expressions, calls and the rest. -/
namespace Mi
open PySem PySem.Spec PyProof.Rows L2
section
variable {T : Tab} {F : Nat → Option Addr}
/-- a step while p is hidden, seen from ahead of it -/
theorem sp_hidden {rho rho' : Adrs} {H H2 : Hp} {p : Addr} {o o' : HO} (s : Sp rho (upd H p o) rho' H2) (hp : H p = none) (np : some p ∉ rho) : Sp rho H rho' (upd H2 p o') := by
  refine ⟨fun a u e n => ?_, s.len, s.pre, fun a q => ?_⟩
  · have ne : a ≠ p := ne_of_none e hp
    rw [upd_ne ne]
    exact s.keep a u (by rw [upd_ne ne]; exact e) n
  · rcases s.new a q with z | z
    · exact .inl z
    · by_cases ne : a = p
      · subst ne; exact .inr hp
      · rw [upd_ne ne] at z; exact .inr z
/-! ### displays of dicts -/
def trsOf (K : PySem.W.Frag) (T : Tab) (F : Nat → Option Addr) (k : Nat) : List Key → Ex → List (TE × TE)
  | c :: ks, .cons a b => (tC (kV c), RE K T F k a) :: trsOf K T F k ks b
  | _, _ => []
theorem trs_run {K : PySem.W.Frag} {k : Nat} {σ : L2.St} : ∀ (ks : List Key) (x : Ex) (l : List D) {Xi : List Addr} {rho : Adrs} {σm : Env} {h h' : MH} {H : Hp} {Q : List (V × V) → Hp → Prop}, Rel K F Xi rho σm h σ H → ev (CF T k) x σm h = .ok (.tup l, h') → ks.length = l.length →
    (∀ vs H' rho', Sp rho H rho' H' → Rl K F Xi rho' h' H' → Reps K F Xi rho' H' l vs → Q ((ks.zip vs).map fun p => (kV p.1, p.2)) H') → (∃ n, (∀ N sc es, chks T N sc x es = true → es.length = n) ∧ (∃ N sc es, chks T N sc x es = true)) → tPairs (trsOf K T F k ks x) σ H Q := by
  intro ks x
  induction x generalizing ks with
  | nil =>
    intro l Xi rho σm h h' H Q rel ev le q _
    cases ev
    cases ks with
    | nil => exact q [] H rho Sp.refl rel.rl Reps.nil'
    | cons _ _ => cases le
  | cons a b iha ihb =>
    intro l Xi rho σm h h' H Q rel ev le q ex
    obtain ⟨y, h1, e1, ev⟩ := bnd_inv ev
    obtain ⟨z, h2, e2, ev⟩ := bnd_inv ev
    cases z with
    | tup r =>
      cases ev
      cases ks with
      | nil => cases le
      | cons c ks =>
        refine re1 rel e1 fun v H1 rho1 s1 r1 rv => ?_
        refine ihb ks r r1 e2 (by simpa using le) (fun vs H2 rho2 s2 rl2 rr => q (v :: vs) H2 rho2 (s1.trans s2) rl2 (Reps.cons' (Rep.mo s2.mo _ _ rv) rr)) ?_
        obtain ⟨n, _, N, sc, es, hc⟩ := ex
        obtain ⟨e, r', rfl, _, _, h3⟩ := chks_cons hc
        refine ⟨r'.length, fun N sc es h => ?_, N, sc, r', h3⟩
        -- all checked lists have one length
        have all : ∀ (x : Ex) (N N' : List Str) (sc sc' : Scope) (es es' : List Expr), chks T N sc x es = true → chks T N' sc' x es' = true → es.length = es'.length := by
          intro x
          induction x with
          | nil => intro N N' sc sc' es es' h h'; rw [chks_nil h, chks_nil h']
          | cons a b _ ih =>
            intro N N' sc sc' es es' h h'
            obtain ⟨e, r, rfl, _, _, h3⟩ := chks_cons h
            obtain ⟨e', r', rfl, _, _, h3'⟩ := chks_cons h'
            simp [ih N N' sc sc' r r' h3 h3']
          | _ => intro N N' sc sc' es es' h h'; unfold chks at h; cases h
        exact all b N _ sc _ es r' h h3
    | _ => cases ev
  | _ =>
    intro l Xi rho σm h h' H Q rel ev le q ex
    obtain ⟨n, _, N, sc, es, hc⟩ := ex
    unfold chks at hc; cases hc
theorem merge_nodup : ∀ (more acc : List (Key × V)), ((acc ++ more).map (·.1)).Nodup → mergeK acc more = acc ++ more
  | [], acc, _ => by simp [mergeK]
  | p :: more, acc, h => by
    have hn : p.1 ∉ acc.map (·.1) := by
      rw [List.map_append, List.map_cons] at h
      intro q
      exact (List.nodup_append.mp h).2.2 p.1 q p.1 List.mem_cons_self rfl
    have e1 : putK acc p.1 p.2 = acc ++ [p] := by
      unfold putK
      rw [if_neg]
      simp only [List.any_eq_true, decide_eq_true_eq, not_exists, not_and]
      intro kv hk e
      exact hn (List.mem_map.mpr ⟨kv, hk, e⟩)
    show mergeK (putK acc p.1 p.2) more = _
    rw [e1, merge_nodup more (acc ++ [p]) (by rw [List.append_assoc]; exact h), List.append_assoc]
    rfl
/-- every expression of a list is sound -/
inductive SndAll (T : Tab) (F : Nat → Option Addr) : Ex → Prop
  | nil : SndAll T F .nil
  | cons {a b : Ex} : Snd T F a → SndAll T F b → SndAll T F (.cons a b)
  | other {x : Ex} : (∀ N sc es, chks T N sc x es = false) → SndAll T F x
theorem key_pe {X : Cx} {c : Key} {o : Option Expr} (h : keyLit c o = true) : ∃ kx, o = some kx ∧ PE X kx (tC (kV c)) := by
  cases o with
  | none => cases c <;> cases h
  | some kx =>
    refine ⟨kx, rfl, ?_⟩
    cases kx with
    | Constant q k pos =>
      cases c with
      | inl i =>
        cases q with
        | int j => obtain rfl := of_decide_eq_true (show decide (i = j) = true from h); exact pe_int
        | _ => cases h
      | inr i =>
        cases q with
        | str j => obtain rfl := of_decide_eq_true (show decide (i = j) = true from h); exact pe_str
        | _ => cases h
    | _ => cases c <;> cases h
theorem pps_all {X : Cx} {k : Nat} {pos : Pos} (C : Ctx T F k X) : ∀ {x : Ex} (ks : List Key) (l : List (Option Expr)) (r : List Expr), SndAll T F x → keyLits ks l = true → l.length = r.length → chks T X.N X.env.scope x r = true → PPs X pos l r (trsOf X.K T F k ks x) := by
  intro x ks l r S
  induction S generalizing ks l r with
  | nil =>
    intro hk hl hc
    have e := chks_nil hc
    subst e
    have e2 : l = [] := List.eq_nil_of_length_eq_zero hl
    subst e2
    cases ks with
    | nil => exact pps_nil
    | cons _ _ => cases hk
  | @cons a b A _ ih =>
    intro hk hl hc
    obtain ⟨e, r', rfl, _, h2, h3⟩ := chks_cons hc
    cases l with
    | nil => cases hl
    | cons o l =>
      cases ks with
      | nil => cases hk
      | cons c ks =>
        have hk' : keyLit c o = true ∧ keyLits ks l = true := by
          have : (keyLit c o && keyLits ks l) = true := hk
          rw [Bool.and_eq_true] at this; exact this
        obtain ⟨kx, rfl, pk⟩ := key_pe (X := X) hk'.1
        exact pps_cons pk (A.pe k X e C h2) (ih ks l r' hk'.2 (by simpa using hl) h3)
  | other h => intro _ _ hc; rw [h] at hc; cases hc
theorem keyLits_some : ∀ {ks : List Key} {l : List (Option Expr)}, keyLits ks l = true → l.all (·.isSome) = true ∧ l.length = ks.length
  | [], [], _ => ⟨rfl, rfl⟩
  | [], _ :: _, h => by cases h
  | _ :: _, [], h => by cases h
  | k :: ks, o :: l, h => by
    have h' : keyLit k o = true ∧ keyLits ks l = true := by
      have : (keyLit k o && keyLits ks l) = true := h
      rw [Bool.and_eq_true] at this; exact this
    obtain ⟨i1, i2⟩ := keyLits_some h'.2
    refine ⟨?_, by simp [i2]⟩
    rw [List.all_cons, i1, Bool.and_true]
    cases o with
    | some _ => rfl
    | none =>
      have h2 := h'.1
      unfold keyLit at h2
      cases k <;> cases h2
theorem snd_dsp (m : Bool) (ks : List Key) {vs : Ex} (A : Snd T F vs) (S : SndAll T F vs) : Snd T F (.dsp m ks vs) := by
  refine Snd.ofP (fun k X e C h => ?_) (fun _ _ es => by unfold chks; rfl) (fun _ _ _ h => by unfold chk at h ⊢; exact h)
  unfold chk at h
  split at h
  · rename_i e l r pos
    simp only [Bool.and_eq_true, decide_eq_true_eq, Bool.not_eq_true'] at h
    obtain ⟨⟨⟨h1, h2⟩, h3⟩, h4⟩ := h
    obtain ⟨k1, k2⟩ := keyLits_some h1
    have ne : l ≠ [] := fun z => by rw [z] at h3; cases h3
    have go : ∀ (pins : List (Addr × Obj)) (s : Shared) (σ : L2.St) (H : Hp) (Q : VK), L2.Inv X pins σ H s → RE X.K T F k (.dsp m ks vs) σ H Q → ks.length ≤ 15 ∧ tDisp (trsOf X.K T F k ks vs) σ H Q := fun pins s σ H Q I hw => by
      obtain ⟨Xi, rho, σm, h0, d, h', rel, ev, q⟩ := hw
      obtain ⟨y, hh1, e1, ev⟩ := bnd_inv ev
      cases y with
      | tup w =>
        obtain ⟨hz, ev⟩ := grd_inv ev
        simp only [Bool.and_eq_true, decide_eq_true_eq] at hz
        obtain ⟨⟨z1, z2⟩, z3⟩ := hz
        refine ⟨z2, fun p hp => ?_⟩
        have np := (rel.rl.fresh hp).1
        refine trs_run ks vs w (rel.hide hp) e1 z1 (fun vals H2 rho2 s2 rl2 rr => ?_) ⟨r.length, fun N sc es hc => ?_, _, _, _, h2⟩
        · have hp2 : H2 p = some (.dK []) := s2.keep p _ upd_same np
          have lv := rr.length
          have kz : (ks.zip vals).map (·.1) = ks := by
            rw [List.map_fst_zip]
            omega
          refine ⟨hp2, ks.zip vals, rfl, ?_, ?_⟩
          · rw [List.length_zip]; omega
          · rw [merge_nodup (ks.zip vals) [] (by rw [List.nil_append, kz]; exact z3), List.nil_append]
            obtain ⟨o1, o2⟩ := rl2.own (o := .dK (ks.zip vals))
            obtain ⟨rho3, s3, rl3, r3⟩ := alc_at o1 (rel.rl.fresh hp).2 upd_same ((Cont.k (by omega) rr).mo o2) ev (sp_hidden s2 hp np) hp
            exact q _ _ rho3 s3 rl3 r3
        · -- one length
          have all : ∀ (x : Ex) (N N' : List Str) (sc sc' : Scope) (es es' : List Expr), chks T N sc x es = true → chks T N' sc' x es' = true → es.length = es'.length := by
            intro x
            induction x with
            | nil => intro N N' sc sc' es es' h h'; rw [chks_nil h, chks_nil h']
            | cons a b _ ih =>
              intro N N' sc sc' es es' h h'
              obtain ⟨e, r, rfl, _, _, h3⟩ := chks_cons h
              obtain ⟨e', r', rfl, _, _, h3'⟩ := chks_cons h'
              simp [ih N N' sc sc' r r' h3 h3']
            | _ => intro N N' sc sc' es es' h h'; unfold chks at h; cases h
          exact all vs _ _ _ _ _ _ hc h2
      | _ => cases ev
    refine ⟨⟨fun pins s σ H Q I hw => ?_⟩, rfl⟩
    obtain ⟨z, g⟩ := go pins s σ H Q I hw
    exact (pe_disp (pps_all C ks l r S h1 h4 h2) k1 h4 ne (by rw [k2]; exact z)).run pins s σ H Q I g
  · cases h
/-! ### calls -/
theorem snd_call (x : Str) (f : Nat) {es : Ex} (A : Snd T F es) : Snd T F (.call x f es) := by
  refine Snd.ofP (fun k X e C h => ?_) (fun _ _ es => by unfold chks; rfl) (fun _ _ _ h => by unfold chk at h ⊢; exact h)
  unfold chk at h
  split at h
  · rename_i e y p l pos
    simp only [Bool.and_eq_true, decide_eq_true_eq] at h
    obtain ⟨⟨⟨rfl, h2⟩, h3⟩, h4⟩ := h
    obtain ⟨a, ha, hm⟩ := C.nms _ _ h3
    have kp := (C.fns f a ha).kp
    refine ⟨⟨fun pins s σ H Q I hw => ?_⟩, rfl⟩
    refine wpAny_Call_Name_kw (ld_glob I (gl_of h2).1 hm ?_ (gl_of h2).2)
    obtain ⟨Xi, rho, σm, h0, d, h', rel, ev0, q⟩ := hw
    obtain ⟨y, hh1, e1, ev1⟩ := bnd_inv ev0
    clear ev0
    cases y with
    | tup w =>
      have ev : callF T.P k f w hh1 = .ok (d, h') := ev1
      clear ev1
      have args : RA X.K T F k es σ H fun vs H1 => spF X.K F T.P k f vs H1 Q :=
        ⟨Xi, rho, σm, h0, w, hh1, rel, e1, fun vs H1 rho1 s1 rl1 rr => ⟨Xi, rho1, hh1, w, d, h', rl1, rr, ev, q.on s1⟩⟩
      have pa := A.pa k X l C h4
      cases l with
      | nil =>
        refine PySem.W.callWith_K0 I.kIn kp (run_m (us := []) (vs := []) C ha I .nil ?_)
        have hx : w = [] := by
          cases es with
          | nil => cases e1; rfl
          | cons u v => obtain ⟨_, _, e, _⟩ := chks_cons h4; cases e
          | _ => unfold chks at h4; cases h4
        subst hx
        have hh : hh1 = h0 := by
          cases es with
          | nil => cases e1; rfl
          | cons u v => obtain ⟨_, _, e, _⟩ := chks_cons h4; cases e
          | _ => unfold chks at h4; cases h4
        subst hh
        exact ⟨Xi, rho, _, [], d, h', rel.rl, Reps.nil', ev, q⟩
      | cons e0 l =>
        have st : noStar e0 = true ∧ (backTo pos (starEach l X.env)).any (·.1) = false := by
          cases es with
          | cons u v =>
            obtain ⟨e, r, ee, g1, _, g3⟩ := chks_cons h4
            cases ee
            exact ⟨g1, back_plain _ _ g3⟩
          | nil => have := chks_nil h4; cases this
          | _ => unfold chks at h4; cases h4
        exact PySem.W.callWith_K (h₀ := X.base) I.ok.mod.kin kp (thn (pa.run pos pins s σ H _ I args) fun us s1 ⟨vs, H1, I1, r1, q1⟩ => ⟨I1.kIn, run_m C ha I1 r1 q1⟩) (star_cons st.1) st.2
    | _ => cases ev1
  · cases h
theorem snd_callv (i : Nat) {es : Ex} (A : Snd T F es) : Snd T F (.callv i es) := by
  refine Snd.ofP (fun k X e C h => ?_) (fun _ _ es => by unfold chks; rfl) (fun _ _ _ h => by unfold chk at h ⊢; exact h)
  unfold chk at h
  split at h
  · rename_i e y p l pos
    simp only [Bool.and_eq_true, Bool.not_eq_true'] at h
    obtain ⟨⟨h1, h4⟩, h5⟩ := h
    obtain ⟨n1, n2, n3, n4⟩ := nameAt_of h1
    refine ⟨⟨fun pins s σ H Q I hw => ?_⟩, rfl⟩
    obtain ⟨Xi, rho, σm, h0, d, h', rel, ev, q⟩ := hw
    obtain ⟨y, hh1, e1, ev⟩ := bnd_inv ev
    cases y with
    | tup w =>
      have ev' : (match σm[i]? with
        | some (some (.fn f)) => CF T k f w hh1
        | _ => .error .stuck) = .ok (d, h') := ev
      split at ev'
      · rename_i f ef
        obtain ⟨v, e3, e4⟩ := rel.en i _ ef
        unfold Rep at e4
        obtain ⟨a, rfl, ha⟩ := e4
        have kp := (C.fns f a ha).kp
        have args : RA X.K T F k es σ H fun vs H1 => spF X.K F T.P k f vs H1 Q :=
          ⟨Xi, rho, σm, h0, w, hh1, rel, e1, fun vs H1 rho1 s1 rl1 rr => ⟨Xi, rho1, hh1, w, d, h', rl1, rr, ev', q.on s1⟩⟩
        have pa := A.pa k X l C h4
        refine wpAny_Call_Name_kw (thn ((pe_var (pos := p) n1 n2 n3 n4).run pins s σ H (fun v H1 => v = .ref a ∧ H1 = H) I ⟨.ref a, e3, rfl, rfl⟩) fun u s1 ⟨v, H1, I1, r1, q1⟩ => ?_)
        obtain ⟨rfl, rfl⟩ := q1
        obtain rfl : u = Value.ref a := r1
        cases l with
        | nil => cases h5
        | cons e0 l =>
          have st : noStar e0 = true ∧ (backTo pos (starEach l X.env)).any (·.1) = false := by
            cases es with
            | cons u v =>
              obtain ⟨e, r, ee, g1, _, g3⟩ := chks_cons h4
              cases ee
              exact ⟨g1, back_plain _ _ g3⟩
            | nil => have := chks_nil h4; cases this
            | _ => unfold chks at h4; cases h4
          exact PySem.W.callWith_K (h₀ := X.base) I1.ok.mod.kin kp (thn (pa.run pos pins s1 σ _ _ I1 args) fun us s2 ⟨vs, H2, I2, r2, q2⟩ => ⟨I2.kIn, run_m C ha I2 r2 q2⟩) (star_cons st.1) st.2
      · cases ev'
    | _ => cases ev
  · cases h
theorem star_of {X : Cx} {N : List Str} {sc : Scope} {es : Ex} {e0 : Expr} {l : List Expr} {pos : Pos} (h : chks T N sc es (e0 :: l) = true) : noStar e0 = true ∧ (backTo pos (starEach l X.env)).any (·.1) = false := by
  cases es with
  | cons u v =>
    obtain ⟨e, r, ee, g1, _, g3⟩ := chks_cons h
    cases ee
    exact ⟨g1, back_plain _ _ g3⟩
  | nil => have := chks_nil h; cases this
  | _ => unfold chks at h; cases h
theorem snd_bi (b : Bi) (m : Bool) {es : Ex} (A : Snd T F es) : Snd T F (.bi b m es) := by
  refine Snd.ofP (fun k X e C h => ?_) (fun _ _ es => by unfold chks; rfl) (fun _ _ _ h => by unfold chk at h ⊢; exact h)
  unfold chk at h
  split at h
  · rename_i e y p l pos
    simp only [Bool.and_eq_true, decide_eq_true_eq, Bool.not_eq_true'] at h
    obtain ⟨⟨⟨⟨rfl, h2⟩, h3⟩, h4⟩, h5⟩ := h
    have g := gl_of h2
    cases l with
    | nil => cases h5
    | cons e0 l =>
      have st := star_of (X := X) (pos := pos) h4
      have pa := A.pa k X _ C h4
      have cb := call_bi (F := F) C.calm C.un C.grd b m
      have red : ∀ {Q : VK} {σ : L2.St} {H : Hp}, RE X.K T F k (.bi b m es) σ H Q → tCB (rBi X.K F b m) (RA X.K T F k es) σ H Q := fun {Q σ H} hw => by
        obtain ⟨Xi, rho, σm, h0, d, h', rel, ev, q⟩ := hw
        obtain ⟨y, hh1, e1, ev⟩ := bnd_inv ev
        cases y with
        | tup w =>
          obtain ⟨z, ez, ev⟩ := opt_inv ev
          exact ⟨Xi, rho, σm, h0, w, hh1, rel, e1, fun vs H1 rho1 s1 rl1 rr => ⟨Xi, rho1, hh1, _, z, d, h', rl1, rl1.rxs rr, ez, ev, q.on s1⟩⟩
        | _ => cases ev
      have kn : ∀ {s : Str}, biName b = s → b ≠ .gcd → X.mg s = none := fun {s} e ng => by
        have : T.blt.contains (biName b) = true := by cases b <;> first | exact absurd rfl ng | exact h3
        rw [← e]
        exact C.bls _ (by simpa using this)
      cases b with
      | len => exact ⟨⟨fun pins s σ H Q I hw => (pe_callB cb g.1 (kn rfl (by decide)) (by decide +kernel) pa (by decide) (by decide) (star_cons st.1) st.2).run pins s σ H Q I (red hw)⟩, rfl⟩
      | int => exact ⟨⟨fun pins s σ H Q I hw => (pe_callTy cb g.1 (kn rfl (by decide)) (by decide +kernel) pa (by decide) (by decide) (star_cons st.1) st.2).run pins s σ H Q I (red hw)⟩, rfl⟩
      | tuple => exact ⟨⟨fun pins s σ H Q I hw => (pe_callTy cb g.1 (kn rfl (by decide)) (by decide +kernel) pa (by decide) (by decide) (star_cons st.1) st.2).run pins s σ H Q I (red hw)⟩, rfl⟩
      | list => exact ⟨⟨fun pins s σ H Q I hw => (pe_callTy cb g.1 (kn rfl (by decide)) (by decide +kernel) pa (by decide) (by decide) (star_cons st.1) st.2).run pins s σ H Q I (red hw)⟩, rfl⟩
      | repr => exact ⟨⟨fun pins s σ H Q I hw => (pe_callB cb g.1 (kn rfl (by decide)) (by decide +kernel) pa (by decide) (by decide) (star_cons st.1) st.2).run pins s σ H Q I (red hw)⟩, rfl⟩
      | all => exact ⟨⟨fun pins s σ H Q I hw => (pe_callB cb g.1 (kn rfl (by decide)) (by decide +kernel) pa (by decide) (by decide) (star_cons st.1) st.2).run pins s σ H Q I (red hw)⟩, rfl⟩
      | any => exact ⟨⟨fun pins s σ H Q I hw => (pe_callB cb g.1 (kn rfl (by decide)) (by decide +kernel) pa (by decide) (by decide) (star_cons st.1) st.2).run pins s σ H Q I (red hw)⟩, rfl⟩
      | sum => exact ⟨⟨fun pins s σ H Q I hw => (pe_callB cb g.1 (kn rfl (by decide)) (by decide +kernel) pa (by decide) (by decide) (star_cons st.1) st.2).run pins s σ H Q I (red hw)⟩, rfl⟩
      | max => exact ⟨⟨fun pins s σ H Q I hw => (pe_callB cb g.1 (kn rfl (by decide)) (by decide +kernel) pa (by decide) (by decide) (star_cons st.1) st.2).run pins s σ H Q I (red hw)⟩, rfl⟩
      | min => exact ⟨⟨fun pins s σ H Q I hw => (pe_callB cb g.1 (kn rfl (by decide)) (by decide +kernel) pa (by decide) (by decide) (star_cons st.1) st.2).run pins s σ H Q I (red hw)⟩, rfl⟩
      | abs => exact ⟨⟨fun pins s σ H Q I hw => (pe_callB cb g.1 (kn rfl (by decide)) (by decide +kernel) pa (by decide) (by decide) (star_cons st.1) st.2).run pins s σ H Q I (red hw)⟩, rfl⟩
      | str => exact ⟨⟨fun pins s σ H Q I hw => (pe_callTy cb g.1 (kn rfl (by decide)) (by decide +kernel) pa (by decide) (by decide) (star_cons st.1) st.2).run pins s σ H Q I (red hw)⟩, rfl⟩
      | gcd => exact ⟨⟨fun pins s σ H Q I hw => (pe_callBfun cb g.1 (C.gcd h3) pa g.2 (star_cons st.1) st.2).run pins s σ H Q I (red hw)⟩, rfl⟩
  · cases h
def tyStr : Ty → String
  | .int => "int"
  | .bool => "bool"
  | .str => "str"
  | .tuple => "tuple"
  | .list => "list"
  | .dict => "dict"
theorem ty_boot (t : Ty) : bootBuiltins (tyName t) = some (.type (tyStr t)) := by cases t <;> decide +kernel
/-- what isinstance tells -/
theorem isi_spec {K : PySem.W.Frag} {Xi : List Addr} {rho : Adrs} {H : Hp} {t : Ty} {d : D} {v : V} {b : Bool} (e : isiD t d = some b) (r : Rx K F Xi rho H d v) : ∃ s : String, TyX K H v (.type s) ∧ kitB s (tyStr t) = some b := by
  cases d with
  | non => cases e; rw [(r.rep rfl).enon]; exact ⟨_, .base .non, by cases t <;> decide +kernel⟩
  | bl x => cases e; rw [(r.rep rfl).ebl]; exact ⟨_, .base (.bl x), by cases t <;> decide +kernel⟩
  | int x => cases e; rw [(r.rep rfl).eint]; exact ⟨_, .base (.int x), by cases t <;> decide +kernel⟩
  | str x => cases e; rw [(r.rep rfl).estr]; exact ⟨_, .base (.str x), by cases t <;> decide +kernel⟩
  | tup l => cases e; obtain ⟨a, vs, rfl, h, _⟩ := (r.rep rfl).etup; exact ⟨_, .base (.tup h), by cases t <;> decide +kernel⟩
  | lst l => cases e; obtain ⟨a, vs, rfl, h, _⟩ := r.lst; exact ⟨_, .base (.lst h), by cases t <;> decide +kernel⟩
  | dK ks l => cases e; obtain ⟨a, vs, rfl, h, _⟩ := r.dK; exact ⟨_, .base (.dK h), by cases t <;> decide +kernel⟩
  | dT ks l => cases e; obtain ⟨a, vs, rfl, h, _⟩ := r.dT; exact ⟨_, .base (.dT h), by cases t <;> decide +kernel⟩
  | scr l =>
    cases e
    obtain ⟨a, vs, rfl, h, _⟩ := (r.rep rfl).escr
    have k : ∀ s : String, s = "list" → kitB s (tyStr t) = some (decide (t = .list)) := fun s z => by subst z; cases t <;> decide +kernel
    rcases h with (h | ⟨o, h⟩) | ⟨o, its, n, h, c, _⟩
    · exact ⟨_, .base (.lst h), k _ rfl⟩
    · exact ⟨_, .base (.frz h), k _ rfl⟩
    · exact ⟨_, .kList h c, k _ rfl⟩
  | ref i => cases e
  | fn i => cases e
theorem snd_isi (t : Ty) {a : Ex} (A : Snd T F a) : Snd T F (.isi t a) := by
  refine Snd.ofP (fun k X e C h => ?_) (fun _ _ es => by unfold chks; rfl) (fun _ _ _ h => by unfold chk at h ⊢; exact h)
  unfold chk at h
  split at h
  · rename_i e y p x z p2 pos
    simp only [Bool.and_eq_true, decide_eq_true_eq] at h
    obtain ⟨⟨⟨⟨⟨⟨⟨rfl, h2⟩, h3⟩, rfl⟩, h5⟩, h6⟩, h7⟩, h8⟩ := h
    have m1 : X.mg "isinstance" = none := C.bls _ (by simpa using h3)
    have m2 : X.mg (tyName t) = none := C.bls _ (by simpa using h6)
    have nn : tyName t ≠ "__name__" := by cases t <;> decide +kernel
    have pa : PA X [x, .Name (tyName t) p2] (tCons (RE X.K T F k a) (tCons (tC (.ty (tyStr t))) tNil)) := pa_cons (A.pe k X x C h8) (pa_cons (pe_bltn (gl_of h5).1 m2 (ty_boot t) rfl nn (gl_of h5).2) pa_nil) (star_cons h7)
    refine ⟨⟨fun pins s σ H Q I hw => (pe_callB call_isi (gl_of h2).1 m1 (by decide +kernel) pa (by decide) (by decide) (star_cons h7) rfl).run pins s σ H Q I ?_⟩, rfl⟩
    obtain ⟨Xi, rho, σm, h0, d, h', rel, ev, q⟩ := hw
    obtain ⟨x1, h1, e1, ev⟩ := bnd_inv ev
    obtain ⟨b, eb, ev⟩ := opt_inv ev
    cases ev
    refine re1 rel e1 fun v H1 rho1 s1 r1 rv => ?_
    obtain ⟨st, ty, kb⟩ := isi_spec eb (r1.rl.rx rv)
    exact ⟨v, .ty (tyStr t), .type st, .type (tyStr t), b, rfl, .ty _, ty, kit_ty kb, (q.on s1).here r1.rl (by unfold Rep; rfl)⟩
  · cases h
theorem snd_ix {a i : Ex} (A : Snd T F a) (B : Snd T F i) : Snd T F (.ix a i) := by
  refine Snd.ofP (fun k X e C h => ?_) (fun _ _ es => by unfold chks; rfl) (fun _ _ _ h => by unfold chk at h ⊢; exact h)
  unfold chk at h
  split at h
  · simp only [Bool.and_eq_true] at h
    refine ⟨⟨fun pins s σ H Q I hw => (pe_ix (ix_mi (F := F) C.un) (A.pe k X _ C h.1.2) (B.pe k X _ C h.2) (plain_ix h.1.1)).run pins s σ H Q I ?_⟩, rfl⟩
    obtain ⟨Xi, rho, σm, h0, d, h', rel, ev, q⟩ := hw
    obtain ⟨x, h1, e1, ev⟩ := bnd_inv ev
    obtain ⟨y, h2, e2, ev⟩ := bnd_inv ev
    obtain ⟨z, ez, ev⟩ := opt_inv ev
    cases ev
    exact re2 rel e1 e2 fun v u H2 rho2 s2 r2 rv ru => ⟨Xi, rho2, _, _, d, r2.rl.rx rv, r2.rl.rx ru, ez, fun w rw' => (q.on s2).here r2.rl rw'⟩
  · cases h
theorem snd_nopart : Snd T F .nopart := by
  refine ⟨fun k X e C h => (by unfold chk at h; cases h), fun k X es C h => (by unfold chks at h; cases h), fun k X e C h => (by unfold chk at h; cases h), fun k X tg e C h => (by unfold chk at h; cases h)⟩
/-- a part of a slice -/
def RO (K : PySem.W.Frag) (T : Tab) (F : Nat → Option Addr) (k : Nat) (x : Ex) : TO := fun σ H Q =>
  ∃ Xi rho σm h d h' o, Rel K F Xi rho σm h σ H ∧ ev (CF T k) x σm h = .ok (d, h') ∧ endD (isNop x) d = some o ∧ ∀ H' rho', Sp rho H rho' H' → Rl K F Xi rho' h' H' → Q o H'
theorem po_of {X : Cx} {k : Nat} {x : Ex} {o : Option Expr} (C : Ctx T F k X) (A : Snd T F x) (h : partB (isNop x) o (fun y => chk T X.N false X.env.scope x y) = true) : PO X o (RO X.K T F k x) := by
  cases o with
  | none =>
    have hx : x = .nopart := by
      have h' : isNop x = true := h
      cases x <;> first | rfl | cases h'
    subst hx
    refine ⟨fun pins s σ H Q I hw => po_none.run pins s σ H Q I ?_⟩
    obtain ⟨Xi, rho, σm, h0, d, h', o, rel, ev, eo, q⟩ := hw
    cases ev
    cases eo
    exact q H rho Sp.refl rel.rl
  | some y =>
    have hx : isNop x = false ∧ chk T X.N false X.env.scope x y = true := by
      have : (!(isNop x) && chk T X.N false X.env.scope x y) = true := h
      simpa using this
    refine ⟨fun pins s σ H Q I hw => (po_some (A.pe k X _ C hx.2)).run pins s σ H Q I ?_⟩
    obtain ⟨Xi, rho, σm, h0, d, h', o, rel, ev, eo, q⟩ := hw
    rw [hx.1] at eo
    cases d with
    | int i =>
      cases eo
      exact re1 rel ev fun v H1 rho1 s1 r1 rv => ⟨i, rv.eint, q H1 rho1 s1 r1.rl⟩
    | _ => cases eo
theorem snd_slc (m : Bool) {a lo hi : Ex} (A : Snd T F a) (L : Snd T F lo) (U : Snd T F hi) : Snd T F (.slc m a lo hi) := by
  refine Snd.ofP (fun k X e C h => ?_) (fun _ _ es => by unfold chks; rfl) (fun _ _ _ h => by unfold chk at h ⊢; exact h)
  unfold chk at h
  split at h
  · simp only [Bool.and_eq_true] at h
    refine ⟨⟨fun pins s σ H Q I hw => (pe_slice (sl_mi (F := F) m) (A.pe k X _ C h.1.1) (po_of C L h.1.2) (po_of C U h.2)).run pins s σ H Q I ?_⟩, rfl⟩
    obtain ⟨Xi, rho, σm, h0, d, h', rel, ev, q⟩ := hw
    obtain ⟨x, h1, e1, ev⟩ := bnd_inv ev
    obtain ⟨y, h2, e2, ev⟩ := bnd_inv ev
    obtain ⟨z, h3, e3, ev⟩ := bnd_inv ev
    obtain ⟨l, el, ev⟩ := opt_inv ev
    obtain ⟨u, eu, ev⟩ := opt_inv ev
    obtain ⟨w, ew, ev⟩ := opt_inv ev
    exact re1 rel e1 fun v H1 rho1 s1 r1 rv => ⟨Xi, rho1, σm, h1, y, h2, l, r1, e2, el, fun H2 rho2 s2 rl2 =>
      ⟨Xi, rho2, σm, h2, z, h3, u, r1.on s2 rl2, e3, eu, fun H3 rho3 s3 rl3 => ⟨Xi, rho3, h3, _, w, d, h', rl3, rl3.rx (Rep.mo (s2.trans s3).mo _ _ rv), ew, ev, q.on (s1.trans (s2.trans s3))⟩⟩⟩
  · cases h
theorem snd_rev (m : Bool) {a : Ex} (A : Snd T F a) : Snd T F (.rev m a) := by
  refine Snd.ofP (fun k X e C h => ?_) (fun _ _ es => by unfold chks; rfl) (fun _ _ _ h => by unfold chk at h ⊢; exact h)
  unfold chk at h
  split at h
  · simp only [Bool.and_eq_true, decide_eq_true_eq] at h
    obtain ⟨rfl, h2⟩ := h
    refine ⟨⟨fun pins s σ H Q I hw => (pe_revL (A.pe k X _ C h2)).run pins s σ H Q I ?_⟩, rfl⟩
    obtain ⟨Xi, rho, σm, h0, d, h', rel, ev, q⟩ := hw
    obtain ⟨x, h1, e1, ev⟩ := bnd_inv ev
    refine re1 rel e1 fun v H1 rho1 s1 r1 rv => ?_
    have xv := r1.rl.rx rv
    have ev' : (match deref h1 x with
      | .lst l => alc m (.lst l.reverse) h1
      | _ => .error .stuck) = .ok (d, h') := ev
    split at ev'
    · rename_i l el
      rw [el] at xv
      obtain ⟨a, vs, rfl, ha, rr⟩ := xv.lst
      exact ⟨a, vs, rfl, .of ha, alc_new r1.rl (Cont.l rr.reverse') ev' (q.on s1)⟩
    · cases ev'
  · cases h
end
end Mi
/-! Mi over the layer: methods, targets, what is walked, comprehensions. -/
namespace Mi
open PySem PySem.Spec PyProof.Rows L2
section
variable {T : Tab} {F : Nat → Option Addr}
/-! ### methods -/
def rMe (K : PySem.W.Frag) (F : Nat → Option Addr) (q : Me) : V → List V → Hp → VK → Prop := fun x xs H Q => ∃ Xi rho h d l r h', Rl K F Xi rho h H ∧ Rep K F Xi rho H d x ∧ Reps K F Xi rho H l xs ∧ meR q d l h = .ok (r, h') ∧ Post K F Xi rho H r h' Q
def meId : Me → String
  | .append => "list.append"
  | .pop => "list.pop"
  | .extend => "list.extend"
  | .get => "dict.get"
def meT : Me → String
  | .get => "dict"
  | _ => "list"
theorem lst_at {K : PySem.W.Frag} {Xi : List Addr} {rho : Adrs} {H : Hp} {h : MH} {i : Nat} {l : List D} {x : V} (rl : Rl K F Xi rho h H) (e : h[i]? = some (.lst l)) (r : Rep K F Xi rho H (.ref i) x) :
    ∃ a vs, x = .ref a ∧ rho[i]? = some (some a) ∧ H a = some (.lst vs) ∧ Reps K F Xi rho H l vs ∧ D.okRs i l = true := by
  obtain ⟨a, ho, rfl, er, ha, c⟩ := rl.thing e rfl r
  obtain ⟨vs, rfl, rr⟩ := c
  refine ⟨a, vs, rfl, er, ha, rr, ?_⟩
  rcases rl.obj i _ e with ⟨z, _⟩ | ⟨b, hb, _, _, _, z⟩
  · cases z
  · unfold D.okR at z; exact z
theorem okRs_append (n : Nat) : ∀ (l r : List D), D.okRs n (l ++ r) = (D.okRs n l && D.okRs n r)
  | [], r => by
    show D.okRs n r = (true && D.okRs n r)
    rw [Bool.true_and]
  | d :: l, r => by
    show (D.okR n d && D.okRs n (l ++ r)) = ((D.okR n d && D.okRs n l) && D.okRs n r)
    rw [okRs_append n l r, Bool.and_assoc]
theorem okRs_dropLast (n : Nat) : ∀ (l : List D), D.okRs n l = true → D.okRs n l.dropLast = true
  | [], h => h
  | [_], h => rfl
  | d :: e :: l, h => by
    have h' : (D.okR n d && D.okRs n (e :: l)) = true := h
    rw [Bool.and_eq_true] at h'
    show (D.okR n d && D.okRs n (e :: l).dropLast) = true
    rw [h'.1, okRs_dropLast n (e :: l) h'.2]
    rfl
theorem mt_me {X : Cx} (hu : X.A.units + 200 < cLine) (q : Me) : MtR X (meId q) (rMe X.K F q) := by
  intro pins s σ H x xs v us Q I rx rv hw
  obtain ⟨Xi, rho, h, d, l, r, h', rl, rd, rr, ev, w⟩ := hw
  cases q with
  | append =>
    cases d with
    | ref i =>
      cases l with
      | nil => cases ev
      | cons y l =>
        cases l with
        | cons _ _ => cases ev
        | nil =>
          have ev' : (match h[i]? with
            | some (.lst v) => grd (decide (v.length < szL) && y.okR i) (.ok (D.non, h.set i (.lst (v ++ [y]))))
            | _ => (.error .stuck : R (D × MH))) = .ok (r, h') := ev
          split at ev'
          · rename_i l0 e0
            obtain ⟨hz, ev2⟩ := grd_inv ev'
            simp only [Bool.and_eq_true, decide_eq_true_eq] at hz
            cases ev2
            obtain ⟨a, vs, rfl, er, ha, rr0, ok0⟩ := lst_at rl e0 rd
            obtain ⟨u, t, rfl, r1, r2⟩ := rr.cons_inv
            obtain rfl := r2.nil_inv
            refine mt_append pins s σ H _ _ v us Q I rx rv ⟨a, vs, u, rfl, rfl, ha, by rw [rr0.length]; exact hz.1, ?_⟩
            refine put_obj rl e0 er (Cont.l (rr0.append' (Reps.cons' r1 Reps.nil'))) ?_ (by unfold Rep; rfl) w
            unfold D.okR
            rw [okRs_append, ok0]
            show (D.okR i y && true) = true
            rw [hz.2]; rfl
          · cases ev'
    | _ => cases l <;> cases ev
  | pop =>
    cases d with
    | ref i =>
      cases l with
      | cons _ _ => cases ev
      | nil =>
        have ev' : (match h[i]? with
          | some (.lst v) => opt v[v.length - 1]? fun d => .ok (d, h.set i (.lst v.dropLast))
          | _ => (.error .stuck : R (D × MH))) = .ok (r, h') := ev
        split at ev'
        · rename_i l0 e0
          obtain ⟨y, ey, ev2⟩ := opt_inv ev'
          cases ev2
          obtain ⟨a, vs, rfl, er, ha, rr0, ok0⟩ := lst_at rl e0 rd
          obtain rfl := rr.nil_inv
          obtain ⟨u, eu, ru⟩ := rr0.get ey
          refine mt_pop pins s σ H _ _ v us Q I rx rv ⟨a, vs, u, rfl, rfl, ha, by rw [rr0.length]; exact eu, ?_⟩
          refine put_obj rl e0 er (Cont.l rr0.dropLast') ?_ ru w
          unfold D.okR
          exact okRs_dropLast i l0 ok0
        · cases ev'
    | _ => cases l <;> cases ev
  | extend =>
    cases d with
    | ref i =>
      cases l with
      | nil => cases ev
      | cons y l =>
        cases l with
        | cons _ _ => cases ev
        | nil =>
          have ev' : (match h[i]? with
            | some (.lst v) => opt (things (deref h y)) fun r => grd (decide (v.length + r.length ≤ szL) && D.okRs i r) (.ok (D.non, h.set i (.lst (v ++ r))))
            | _ => (.error .stuck : R (D × MH))) = .ok (r, h') := ev
          split at ev'
          · rename_i l0 e0
            obtain ⟨y', ey, ev1⟩ := opt_inv ev'
            obtain ⟨hz, ev2⟩ := grd_inv ev1
            simp only [Bool.and_eq_true, decide_eq_true_eq] at hz
            cases ev2
            obtain ⟨a, vs, rfl, er, ha, rr0, ok0⟩ := lst_at rl e0 rd
            obtain ⟨u, t, rfl, r1, r2⟩ := rr.cons_inv
            obtain rfl := r2.nil_inv
            have xy := rl.rx r1
            generalize deref h y = dy at xy ey
            cases dy with
            | lst ly =>
              cases ey
              obtain ⟨b, zs, rfl, hb, rz⟩ := xy.lst
              refine mt_extend pins s σ H _ _ v us Q I rx rv ⟨a, b, vs, zs, rfl, rfl, ha, hb, by rw [rr0.length, rz.length]; exact hz.1, ?_⟩
              refine put_obj rl e0 er (Cont.l (rr0.append' rz)) ?_ (by unfold Rep; rfl) w
              unfold D.okR
              rw [okRs_append, ok0, hz.2]; rfl
            | tup ly =>
              cases ey
              obtain ⟨b, zs, rfl, hb, rz⟩ := (xy.rep rfl).etup
              refine (MiL.mt_extT (X := X)) pins s σ H _ _ v us Q I rx rv ⟨a, b, vs, zs, rfl, rfl, ha, hb, by rw [rr0.length, rz.length]; exact hz.1, ?_⟩
              refine put_obj rl e0 er (Cont.l (rr0.append' rz)) ?_ (by unfold Rep; rfl) w
              unfold D.okR
              rw [okRs_append, ok0, hz.2]; rfl
            | _ => cases ey
          · cases ev'
    | _ => cases l <;> cases ev
  | get =>
    cases l with
    | nil => cases ev
    | cons k l =>
      obtain ⟨y, t, rfl, r1, r2⟩ := rr.cons_inv
      cases l with
      | nil =>
        obtain rfl := r2.nil_inv
        obtain ⟨o, eo, ev2⟩ := opt_inv (show (opt (getKD (deref h d) (deref h k)) fun o => (.ok (o.getD .non, h) : R (D × MH))) = .ok (r, h') from ev)
        cases ev2
        obtain ⟨a, ro, rfl, g, m⟩ := getKD_spec eo (rl.rx rd) (rl.rx r1)
        obtain rfl : v = Value.ref a := rx
        obtain ⟨u, rfl, ru⟩ := rv.one
        refine d_get1 (by omega) I g ru fun w' s' I' r' => ⟨_, H, I', r', w.here rl ?_⟩
        cases o with
        | some z => obtain ⟨b, rfl, rb⟩ := m; exact rb
        | none => cases (show ro = none from m); unfold Option.getD Rep; rfl
      | cons k2 l =>
        obtain ⟨y2, t2, rfl, r3, r4⟩ := r2.cons_inv
        cases l with
        | cons _ _ => cases ev
        | nil =>
          obtain rfl := r4.nil_inv
          obtain ⟨o, eo, ev2⟩ := opt_inv (show (opt (getKD (deref h d) (deref h k)) fun o => (.ok (o.getD k2, h) : R (D × MH))) = .ok (r, h') from ev)
          cases ev2
          obtain ⟨a, ro, rfl, g, m⟩ := getKD_spec eo (rl.rx rd) (rl.rx r1)
          obtain rfl : v = Value.ref a := rx
          obtain ⟨u, u2, rfl, ru, ru2⟩ := rv.two
          refine d_get2 (by omega) I g ru ru2 fun w' s' I' r' => ⟨_, H, I', r', w.here rl ?_⟩
          cases o with
          | some z => obtain ⟨b, rfl, rb⟩ := m; exact rb
          | none => cases (show ro = none from m); exact r3
theorem meTy_spec {K : PySem.W.Frag} {Xi : List Addr} {rho : Adrs} {H : Hp} {q : Me} {d : D} {x : V} (h : meTy q d = true) (r : Rx K F Xi rho H d x) : tyV K (meT q) x H := by
  cases q with
  | get =>
    cases d with
    | dK ks l => obtain ⟨a, vs, rfl, ha, _⟩ := r.dK; exact .inr (.inr (.inl ⟨rfl, .inl ⟨_, ha⟩⟩))
    | dT ks l => obtain ⟨a, vs, rfl, ha, _⟩ := r.dT; exact .inr (.inr (.inl ⟨rfl, .inr ⟨_, ha⟩⟩))
    | _ => cases h
  | append =>
    cases d with
    | lst l => obtain ⟨a, vs, rfl, ha, _⟩ := r.lst; exact .inl ⟨rfl, _, .of ha⟩
    | _ => cases h
  | pop =>
    cases d with
    | lst l => obtain ⟨a, vs, rfl, ha, _⟩ := r.lst; exact .inl ⟨rfl, _, .of ha⟩
    | _ => cases h
  | extend =>
    cases d with
    | lst l => obtain ⟨a, vs, rfl, ha, _⟩ := r.lst; exact .inl ⟨rfl, _, .of ha⟩
    | _ => cases h
theorem snd_me (q : Me) {a es : Ex} (A : Snd T F a) (B : Snd T F es) : Snd T F (.me q a es) := by
  refine Snd.ofP (fun k X e C h => ?_) (fun _ _ es => by unfold chks; rfl) (fun _ _ _ h => by unfold chk at h ⊢; exact h)
  unfold chk at h
  split at h
  · rename_i e o y apos l cpos
    simp only [Bool.and_eq_true, decide_eq_true_eq] at h
    obtain ⟨⟨⟨⟨⟨rfl, hl⟩, hr⟩, har⟩, h1⟩, h2⟩ := h
    have hline : (apos.endLine == cpos.line) = true := by rw [hl]; simp
    have red : ∀ {Q : VK} {σ : L2.St} {H : Hp}, RE X.K T F k (.me q a es) σ H Q → tBM X.K (meT q) (rMe X.K F q) (RE X.K T F k a) (RA X.K T F k es) σ H Q := fun {Q σ H} hw => by
      obtain ⟨Xi, rho, σm, h0, d, h', rel, ev, w⟩ := hw
      obtain ⟨x, hh1, e1, ev⟩ := bnd_inv ev
      obtain ⟨g1, ev⟩ := grd_inv ev
      obtain ⟨y, hh2, e2, ev⟩ := bnd_inv ev
      cases y with
      | tup u =>
        exact re1 rel e1 fun v H1 rho1 s1 r1 rv => ⟨meTy_spec g1 (r1.rl.rx rv), Xi, rho1, σm, hh1, u, hh2, r1, e2, fun vs H2 rho2 s2 rl2 rr => ⟨Xi, rho2, hh2, x, u, d, h', rl2, Rep.mo s2.mo _ _ rv, rr, ev, w.on (s1.trans s2)⟩⟩
      | _ => cases ev
    have hbase : ∀ m : Str, attributeBase o m X.env (eval o X.env) = eval o X.env := fun m => plain_recv hr
    cases l with
    | nil =>
      -- only pop has no argument
      have hq : q = .pop := by cases q <;> first | rfl | cases har
      subst hq
      refine ⟨⟨fun pins s σ H Q I hw => (pe_bm0 PySem.F.plainAttrs_list PySem.F.slot_list_pop PySem.F.type_list_pop (mt_me (F := F) C.un .pop) (A.pe k X o C h1) (hbase _) hline).run pins s σ H Q I ?_⟩, rfl⟩
      refine (fun z => ?_ : tBM X.K (meT .pop) (rMe X.K F .pop) (RE X.K T F k a) (RA X.K T F k es) σ H Q → _) (red hw)
      obtain ⟨Xi, rho, σm, h0, d, h', rel, ev, w⟩ := hw
      obtain ⟨x, hh1, e1, ev⟩ := bnd_inv ev
      obtain ⟨g1, ev⟩ := grd_inv ev
      obtain ⟨y, hh2, e2, ev⟩ := bnd_inv ev
      have hes : es = .nil := by
        cases es with
        | nil => rfl
        | cons u v => obtain ⟨_, _, e, _⟩ := chks_cons h2; cases e
        | _ => unfold chks at h2; cases h2
      subst hes
      cases e2
      exact re1 rel e1 fun v H1 rho1 s1 r1 rv => ⟨meTy_spec g1 (r1.rl.rx rv), Xi, rho1, hh1, x, [], d, h', r1.rl, rv, Reps.nil', ev, w.on s1⟩
    | cons e0 l =>
      have st := star_of (X := X) (pos := cpos) h2
      have pa := B.pa k X _ C h2
      have few : ((backTo cpos (starEach (e0 :: l) X.env)).all (fun x => !x.1) && (backToKw cpos (keywordEach [] X.env)).all (fun x => x.1.isSome)
          && decide ((e0 :: l).length + ([] : List Keyword).length + (if ([] : List Keyword).isEmpty then 0 else 1) < 30)) = true := by
        rw [back_all _ _ h2]
        have hn : (e0 :: l).length ≤ 2 := by
          cases q with
          | append => have := of_decide_eq_true (show decide ((e0 :: l).length = 1) = true by simpa [meAr] using har); omega
          | pop => simp [meAr] at har
          | extend => have := of_decide_eq_true (show decide ((e0 :: l).length = 1) = true by simpa [meAr] using har); omega
          | get =>
            have : (e0 :: l).length = 1 ∨ (e0 :: l).length = 2 := by simpa [meAr] using har
            omega
        show (true && true && decide ((e0 :: l).length + 0 + 0 < 30)) = true
        rw [decide_eq_true (by omega)]
        rfl
      cases q with
      | append => exact ⟨⟨fun pins s σ H Q I hw => (pe_bm PySem.F.plainAttrs_list PySem.F.slot_list_append PySem.F.type_list_append (mt_me (F := F) C.un .append) (A.pe k X o C h1) pa (hbase _) few hline (star_cons st.1) st.2).run pins s σ H Q I (red hw)⟩, rfl⟩
      | extend => exact ⟨⟨fun pins s σ H Q I hw => (pe_bm PySem.F.plainAttrs_list PySem.F.slot_list_extend PySem.F.type_list_extend (mt_me (F := F) C.un .extend) (A.pe k X o C h1) pa (hbase _) few hline (star_cons st.1) st.2).run pins s σ H Q I (red hw)⟩, rfl⟩
      | get => exact ⟨⟨fun pins s σ H Q I hw => (pe_bm PySem.F.plainAttrs_dict PySem.F.slot_dict_get PySem.F.type_dict_get (mt_me (F := F) C.un .get) (A.pe k X o C h1) pa (hbase _) few hline (star_cons st.1) st.2).run pins s σ H Q I (red hw)⟩, rfl⟩
      | pop => cases har
  · cases h
/-! ### what is walked -/
theorem chks_star {N : List Str} {sc : Scope} : ∀ (x : Ex) (es : List Expr), chks T N sc x es = true → ∀ e ∈ es, noStar e = true := by
  intro x
  induction x with
  | nil => intro es h; rw [chks_nil h]; intro _ q; cases q
  | cons a b _ ih =>
    intro es h
    obtain ⟨e, r, rfl, g1, _, g3⟩ := chks_cons h
    intro e0 q
    rcases List.mem_cons.mp q with q | q
    · rw [q]; exact g1
    · exact ih r g3 e0 q
  | _ => intro es h; unfold chks at h; cases h
theorem wk_range {K : PySem.W.Frag} {Xi : List Addr} {rho : Adrs} {H : Hp} (a : Int) (n : Nat) : Wk K F Xi (L2.Itr a n) (.things ((List.range n).map fun (i : Nat) => .int (a + i))) rho H := by
  intro Ys rho1 H1 h1 i hy s rl
  refine ⟨fun hl => (show n ≤ i by simpa using hl), fun d hd => ?_⟩
  have hi : i < n := by
    have := (List.getElem?_eq_some_iff.mp hd).1
    simpa using this
  have ed : d = .int (a + i) := by
    rw [List.getElem?_map, List.getElem?_range hi] at hd
    exact (Option.some.inj hd).symm
  subst ed
  refine ⟨hi, fun x H2 y => ?_⟩
  obtain ⟨rfl, rfl⟩ := y
  exact ⟨Sp.refl, rl, by unfold Rep; rfl⟩
theorem snd_rng {es : Ex} (A : Snd T F es) : Snd T F (.rng es) := by
  refine ⟨fun k X e C h => ?_, fun k X es C h => (by unfold chks at h; cases h), fun k X e C h => ?_, fun k X tg e C h => ?_⟩
  · unfold chk at h; split at h <;> cases h
  · unfold chk at h; split at h <;> cases h
  · unfold chk at h
    split at h
    · rename_i e y p l pos
      simp only [Bool.and_eq_true, Bool.or_eq_true, decide_eq_true_eq] at h
      obtain ⟨⟨⟨⟨⟨_, rfl⟩, h2⟩, h3⟩, h4⟩, h5⟩ := h
      have g := (gl_of h2).1
      have hm : X.mg "range" = none := C.bls _ (by simpa using h3)
      have pa := A.pa k X l C h5
      have rng : ∀ {w : List D} {z : List D}, rngD w = some z → (∃ n : Int, w = [.int n] ∧ -(2 ^ 62) ≤ n ∧ n < 2 ^ 62 ∧ z = (List.range n.toNat).map fun (i : Nat) => .int (0 + i)) ∨
          ∃ a b : Int, w = [.int a, .int b] ∧ (-(2 ^ 62) ≤ a ∧ a < 2 ^ 62 ∧ -(2 ^ 62) ≤ b ∧ b < 2 ^ 62) ∧ z = (List.range (b - a).toNat).map fun (i : Nat) => .int (a + i) := fun {w z} e => by
        unfold rngD at e
        split at e
        · split at e
          · rename_i n hz
            simp only [Bool.and_eq_true, decide_eq_true_eq] at hz
            cases e
            exact .inl ⟨n, rfl, hz.1, hz.2, rfl⟩
          · cases e
        · split at e
          · rename_i a b hz
            simp only [Bool.and_eq_true, decide_eq_true_eq] at hz
            cases e
            exact .inr ⟨a, b, rfl, ⟨hz.1.1.1, hz.1.1.2, hz.1.2, hz.2⟩, rfl⟩
          · cases e
        · cases e
      have stars := chks_star _ _ h5
      rcases h4 with h4 | h4
      · obtain ⟨a, rfl⟩ : ∃ a, l = [a] := by
          match l, h4 with
          | [a], _ => exact ⟨a, rfl⟩
        have sa := stars a (by simp)
        refine ⟨fun pins s σ H R I hw => (pi_range1 (tg := tg) g hm pa (star_cons sa)).run pins s σ H R I ?_⟩
        obtain ⟨Xi, rho, σm, h0, d, h', w, rel, ev, ei, q⟩ := hw
        obtain ⟨x, hh1, e1, ev⟩ := bnd_inv ev
        cases x with
        | tup u =>
          obtain ⟨z, ez, ev⟩ := opt_inv ev
          cases ev
          cases ei
          refine ⟨Xi, rho, σm, h0, u, _, rel, e1, fun vs H1 rho1 s1 rl1 rr => ?_⟩
          rcases rng ez with ⟨n, rfl, b1, b2, rfl⟩ | ⟨n, n2, rfl, _, _⟩
          · obtain ⟨v, t, rfl, r1, r2⟩ := rr.cons_inv
            obtain rfl := r2.nil_inv
            exact ⟨n, by rw [r1.eint], b1, b2, q _ H1 rho1 s1 rl1 (wk_range 0 n.toNat)⟩
          · exfalso
            -- one expression, one value
            cases es with
            | cons u v =>
              obtain ⟨e, r, ee, _, _, g3⟩ := chks_cons h5
              cases ee
              cases v with
              | nil =>
                obtain ⟨x, hh, _, ev⟩ := bnd_inv e1
                cases ev
              | cons _ _ => obtain ⟨_, _, e, _⟩ := chks_cons g3; cases e
              | _ => unfold chks at g3; cases g3
            | nil => have := chks_nil h5; cases this
            | _ => unfold chks at h5; cases h5
        | _ => cases ev
      · obtain ⟨a, b, rfl⟩ : ∃ a b, l = [a, b] := by
          match l, h4 with
          | [a, b], _ => exact ⟨a, b, rfl⟩
        have sa := stars a (by simp)
        have sb := stars b (by simp)
        have st2 : starEach [b] X.env = [(false, eval b X.env)] := star_cons sb
        refine ⟨fun pins s σ H R I hw => (pi_range2 (tg := tg) g hm pa (by rw [star_cons sa, st2]) st2).run pins s σ H R I ?_⟩
        obtain ⟨Xi, rho, σm, h0, d, h', w, rel, ev, ei, q⟩ := hw
        obtain ⟨x, hh1, e1, ev⟩ := bnd_inv ev
        cases x with
        | tup u =>
          obtain ⟨z, ez, ev⟩ := opt_inv ev
          cases ev
          cases ei
          refine ⟨Xi, rho, σm, h0, u, _, rel, e1, fun vs H1 rho1 s1 rl1 rr => ?_⟩
          rcases rng ez with ⟨n, rfl, _, _, _⟩ | ⟨n, n2, rfl, b1, rfl⟩
          · exfalso
            cases es with
            | cons u v =>
              obtain ⟨e, r, ee, _, _, g3⟩ := chks_cons h5
              cases ee
              cases v with
              | nil => have := chks_nil g3; cases this
              | cons u2 v2 =>
                obtain ⟨x, hh, _, ev⟩ := bnd_inv e1
                obtain ⟨y, hh2, e5, ev⟩ := bnd_inv ev
                cases y with
                | tup w =>
                  cases ev
                  obtain ⟨x3, hh3, _, ev3⟩ := bnd_inv e5
                  obtain ⟨y4, hh4, e6, ev4⟩ := bnd_inv ev3
                  cases y4 <;> cases ev4
                | _ => cases ev
              | _ => unfold chks at g3; cases g3
            | nil => have := chks_nil h5; cases this
            | _ => unfold chks at h5; cases h5
          · obtain ⟨v, t, rfl, r1, r2⟩ := rr.cons_inv
            obtain ⟨v2, t2, rfl, r3, r4⟩ := r2.cons_inv
            obtain rfl := r4.nil_inv
            exact ⟨n, n2, by rw [r1.eint, r3.eint], b1, q _ H1 rho1 s1 rl1 (wk_range n _)⟩
        | _ => cases ev
    · cases h
theorem snd_enu {a : Ex} : Snd T F (.enu a) := by
  refine ⟨fun k X e C h => ?_, fun k X es C h => (by unfold chks at h; cases h), fun k X e C h => ?_, fun k X tg e C h => ?_⟩ <;> (unfold chk at h; split at h <;> cases h)
theorem snd_zip {a b : Ex} : Snd T F (.zip a b) := by
  refine ⟨fun k X e C h => ?_, fun k X es C h => (by unfold chks at h; cases h), fun k X e C h => ?_, fun k X tg e C h => ?_⟩ <;> (unfold chk at h; split at h <;> cases h)
/-! ### targets -/
def RG (K : PySem.W.Frag) (F : Nat → Option Addr) (t : Tg) : TG := fun v σ H Q =>
  ∃ Xi rho σm h d σm', Rel K F Xi rho σm h σ H ∧ Rep K F Xi rho H d v ∧ asgD t d σm = some σm' ∧ ∀ σ', Rel K F Xi rho σm' h σ' H → (∀ vs, tgIn vs t = true → wipe σ' vs = wipe σ vs) → Q σ' H
def RGs (K : PySem.W.Frag) (F : Nat → Option Addr) (t : Tg) : TGs := fun v σ H Q =>
  ∃ Xi rho σm h l σm', Rel K F Xi rho σm h σ H ∧ Reps K F Xi rho H l v ∧ asgD t (.tup l) σm = some σm' ∧ ∀ σ', Rel K F Xi rho σm' h σ' H → (∀ vs, tgIn vs t = true → wipe σ' vs = wipe σ vs) → Q σ' H
theorem wipe_set {σ : L2.St} {i : Nat} {v : Option V} : ∀ {vs : List Nat}, i ∈ vs → wipe (σ.set i v) vs = wipe σ vs
  | [], h => by cases h
  | w :: vs, h => by
    show (wipe (σ.set i v) vs).set w none = (wipe σ vs).set w none
    by_cases q : i ∈ vs
    · rw [wipe_set q]
    · have e : i = w := by
        rcases List.mem_cons.mp h with z | z
        · exact z
        · exact absurd z q
      subst e
      have : ∀ (us : List Nat), i ∉ us → wipe (σ.set i v) us = (wipe σ us).set i v := by
        intro us
        induction us with
        | nil => intro _; rfl
        | cons u us ih =>
          intro hn
          have h1 : i ≠ u := fun z => hn (by rw [z]; exact List.mem_cons_self)
          have h2 : i ∉ us := fun z => hn (List.mem_cons_of_mem _ z)
          show (wipe (σ.set i v) us).set u none = ((wipe σ us).set u none).set i v
          rw [ih h2, List.set_comm _ _ h1]
      rw [this vs q, List.set_set]
/-- may be stored here -/
def Asg (X : Cx) (sc : Scope) : Prop := ∀ x, locB sc x = true → Loc X.env.scope x ∧ (X.fn x = true ∨ X.env.scope.names.lookup x = some .local)
theorem len_asg {N : List Str} {sc : Scope} : ∀ (t : Tg) (es : List Expr) (l : List D) (σm σm' : Env), chkTs N sc t es = true → asgD t (.tup l) σm = some σm' → l.length = es.length := by
  intro t
  induction t with
  | nil =>
    intro es l σm σm' h e
    cases es with
    | nil =>
      cases l with
      | nil => rfl
      | cons _ _ => cases e
    | cons _ _ => unfold chkTs at h; cases h
  | cons a b _ ih =>
    intro es l σm σm' h e
    cases es with
    | nil => unfold chkTs at h; cases h
    | cons e0 es =>
      unfold chkTs at h
      simp only [Bool.and_eq_true] at h
      cases l with
      | nil => cases e
      | cons d l =>
        obtain ⟨σ1, e1, e2⟩ := Option.bind_eq_some_iff.mp (show ((asgD a d σm).bind fun σ1 => asgD b (.tup l) σ1) = some σm' from e)
        rw [List.length_cons, List.length_cons, ih es l σ1 σm' h.2 e2]
  | _ => intro es l σm σm' h e; unfold chkTs at h; cases h
theorem asg_len {N : List Str} {sc : Scope} {env : PySem.Env} : ∀ (t : Tg) (es : List Expr), chkTs N sc t es = true → (assignEach es env).length = es.length ∧ (assignEach es env).findIdx? (·.1) = none := by
  intro t
  induction t with
  | nil =>
    intro es h
    cases es with
    | nil => exact ⟨rfl, rfl⟩
    | cons _ _ => unfold chkTs at h; cases h
  | cons a b _ ih =>
    intro es h
    cases es with
    | nil => unfold chkTs at h; cases h
    | cons e0 es =>
      unfold chkTs at h
      simp only [Bool.and_eq_true] at h
      obtain ⟨i1, i2⟩ := ih es h.2
      rw [asg_cons h.1.1]
      refine ⟨by rw [List.length_cons, List.length_cons, i1], ?_⟩
      rw [List.findIdx?_cons]
      simp [i2]
  | _ => intro es h; unfold chkTs at h; cases h
theorem pg_both {X : Cx} {sc : Scope} (hc : X.calm = true) (nd : X.N.Nodup) (as : Asg X sc) : ∀ (t : Tg), (∀ e, chkT X.N sc t e = true → PG X e (RG X.K F t)) ∧ (∀ es, chkTs X.N sc t es = true → PGs X es (RGs X.K F t)) := by
  intro t
  induction t with
  | name i =>
    refine ⟨fun e h => ?_, fun es h => by unfold chkTs at h; cases h⟩
    unfold chkT at h
    split at h
    · simp only [Bool.and_eq_true, decide_eq_true_eq] at h
      obtain ⟨h1, h2⟩ := h
      refine ⟨fun pins s σ H v u Q I r hw => (pg_name nd h1 (as _ h2).1 (as _ h2).2).run pins s σ H v u Q I r ?_⟩
      obtain ⟨Xi, rho, σm, h0, d, σm', rel, rd, ea, q⟩ := hw
      cases ea
      refine q _ (rel.set i rd) fun vs hv => ?_
      exact wipe_set (by simpa [tgIn] using hv)
    · cases h
  | nil =>
    refine ⟨fun e h => (by unfold chkT at h; cases h), fun es h => ?_⟩
    cases es with
    | nil =>
      refine ⟨fun pins s σ H vs us Q I r hw => pgs_nil.run pins s σ H vs us Q I r ?_⟩
      obtain ⟨Xi, rho, σm, h0, l, σm', rel, rr, ea, q⟩ := hw
      cases l with
      | nil =>
        cases ea
        exact ⟨rr.nil_inv, q σ rel fun _ _ => rfl⟩
      | cons _ _ => cases ea
    | cons _ _ => unfold chkTs at h; cases h
  | cons a b iha ihb =>
    refine ⟨fun e h => (by unfold chkT at h; cases h), fun es h => ?_⟩
    cases es with
    | nil => unfold chkTs at h; cases h
    | cons e0 es =>
      unfold chkTs at h
      simp only [Bool.and_eq_true] at h
      obtain ⟨⟨h1, h2⟩, h3⟩ := h
      refine ⟨fun pins s σ H vs us Q I r hw => (pgs_cons (iha.1 e0 h2) (ihb.2 es h3) (by rw [asg_cons h1]; rfl)).run pins s σ H vs us Q I r ?_⟩
      obtain ⟨Xi, rho, σm, h0, l, σm', rel, rr, ea, q⟩ := hw
      cases l with
      | nil => cases ea
      | cons d l =>
        obtain ⟨σ1, e1, e2⟩ := Option.bind_eq_some_iff.mp (show ((asgD a d σm).bind fun σ1 => asgD b (.tup l) σ1) = some σm' from ea)
        obtain ⟨v, t, rfl, r1, r2⟩ := rr.cons_inv
        refine ⟨v, t, rfl, Xi, rho, σm, h0, d, σ1, rel, r1, e1, fun σ' rel' w1 => ⟨Xi, rho, σ1, h0, l, σm', rel', r2, e2, fun σ2 rel2 w2 => q σ2 rel2 fun us hu => ?_⟩⟩
        have hu' : tgIn us a = true ∧ tgIn us b = true := by simpa [tgIn] using hu
        rw [w2 us hu'.2, w1 us hu'.1]
  | tup ts ih =>
    refine ⟨fun e h => ?_, fun es h => by unfold chkTs at h; cases h⟩
    unfold chkT at h
    split at h
    · rename_i es _ _
      obtain ⟨l1, l2⟩ := asg_len (env := X.env) ts es h
      refine ⟨fun pins s σ H v u Q I r hw => (pg_tup hc (ih.2 es h) l1 l2).run pins s σ H v u Q I r ?_⟩
      obtain ⟨Xi, rho, σm, h0, d, σm', rel, rd, ea, q⟩ := hw
      cases d with
      | tup l =>
        have ea' : asgD ts (.tup l) σm = some σm' := ea
        obtain ⟨a, vs, rfl, ha, rr⟩ := rd.etup
        exact ⟨a, vs, rfl, .of ha, by rw [rr.length, len_asg ts es l σm σm' h ea'], Xi, rho, σm, h0, l, σm', rel, rr, ea', q⟩
      | _ => cases ts <;> cases ea
    · cases h
end
end Mi
/-! Mi over the layer: list comprehensions; every expression. -/
namespace Mi
open PySem PySem.Spec PyProof.Rows L2
section
variable {T : Tab} {F : Nat → Option Addr}
theorem sp_upd {rho rho' : Adrs} {H H' : Hp} {p : Addr} {o : HO} (s : Sp rho H rho' H') (hp : H p = none) : Sp rho H rho' (upd H' p o) :=
  ⟨fun a u e n => by rw [upd_ne (ne_of_none e hp)]; exact s.keep a u e n, s.len, s.pre, s.new⟩
theorem wipe_none (σ : L2.St) : ∀ (vs : List Nat) (i : Nat), i ∈ vs → i < σ.length → (wipe σ vs)[i]? = some none
  | [], i, h, _ => by cases h
  | v :: vs, i, h, hl => by
    show ((wipe σ vs).set v none)[i]? = some none
    by_cases q : v = i
    · subst q
      exact List.getElem?_set_self (by rw [wipe_length]; exact hl)
    · rw [List.getElem?_set_ne q]
      rcases List.mem_cons.mp h with z | z
      · exact absurd z.symm q
      · exact wipe_none σ vs i z hl
theorem wipe_out' (σ : L2.St) : ∀ (vs : List Nat) (i : Nat), i ∉ vs → (wipe σ vs)[i]? = σ[i]?
  | [], i, _ => rfl
  | v :: vs, i, h => by
    show ((wipe σ vs).set v none)[i]? = σ[i]?
    rw [List.getElem?_set_ne fun q => h (by rw [q]; exact List.mem_cons_self)]
    exact wipe_out' σ vs i fun q => h (List.mem_cons_of_mem _ q)
theorem wipe_wipe (σ : L2.St) (vs : List Nat) : wipe (wipe σ vs) vs = wipe σ vs := by
  apply List.ext_getElem?
  intro i
  by_cases h : i ∈ vs
  · by_cases hl : i < σ.length
    · rw [wipe_none _ vs i h (by rw [wipe_length]; exact hl), wipe_none σ vs i h hl]
    · rw [List.getElem?_eq_none (by rw [wipe_length, wipe_length]; omega), List.getElem?_eq_none (by rw [wipe_length]; omega)]
  · rw [wipe_out' _ vs i h]
/-- the turns of a comprehension -/
theorem lc_run {X : Cx} {k : Nat} {own : List Nat} {t : Tg} {c e : Ex} {g : TG} {tt : TT} {te : TE} {Xi : List Addr} {rho rho1 : Adrs} {σm : Env} {h0 h1 h2 : MH} {σ : L2.St} {H0 H1 : Hp} {J : It} {Dn : Addr} {L : List D} {n : Nat} {Qd : Hp → Prop}
    (hg : g = RG X.K F t) (htt : tt = RT X.K T F k c) (hte : te = RE X.K T F k e) (htg : tgIn own t = true) (hn : n ≤ sizeLine)
    (rel : Rel X.K F Xi rho σm h0 σ H0) (s1 : Sp rho H0 rho1 H1) (rl1 : Rl X.K F Xi rho1 h1 H1) (hD : H1 Dn = none) (Run : Nat → MH → List D → Prop) (r0 : Run 0 h1 L)
    (step : ∀ i h' rest, i ≤ n → Run i h' rest →
      (rest = [] ∧ h' = h2 ∧ ∀ rho' H, Sp rho1 H1 rho' H → Rl X.K F (Dn :: Xi) rho' h' H → J.stop i H) ∨
      (i < n ∧ ∃ x o hA l2, (opt (asgD t x (wipeD σm own)) fun σ1 => bnd (ev (CF T k) c σ1 h') fun b h3 => opt (truD (deref h3 b)) fun u => if u then bnd (ev (CF T k) e σ1 h3) fun d h4 => .ok (some d, h4) else .ok (none, h3)) = .ok (o, hA) ∧ Run (i + 1) hA l2 ∧ rest = ocons o l2 ∧
        ∀ rho' H, Sp rho1 H1 rho' H → Rl X.K F (Dn :: Xi) rho' h' H → J.go i H ∧ ∀ xv H2, J.yld i H xv H2 → Sp rho' H rho' H2 ∧ Rl X.K F (Dn :: Xi) rho' h' H2 ∧ Rep X.K F (Dn :: Xi) rho' H2 x xv))
    (fin : ∀ rho' H acc, Sp rho1 H1 rho' H → Rl X.K F (Dn :: Xi) rho' h2 H → H Dn = some (.lst acc) → Reps X.K F (Dn :: Xi) rho' H L acc → Qd H) :
    ∃ W : Nat → Nat → Hp → Prop, (∃ m, W 0 m (upd H1 Dn (.lst []))) ∧ ∀ i m H, W i m H →
      (J.stop i H ∧ Qd H) ∨ (J.go i H ∧ ∃ Nx : Hp → Prop, (∀ H', Nx H' → ∃ m', m' < m ∧ W (i + 1) m' H') ∧ ∀ x H', J.yld i H x H' → g x (wipe σ own) H' fun σ2 H2 => wipe σ2 own = wipe σ own ∧ tt σ2 H2 fun b H3 =>
        if b = true then te σ2 H3 fun y H4 => ∃ acc, H4 Dn = some (.lst acc) ∧ acc.length < sizeLine ∧ Nx (upd H4 Dn (.lst (acc ++ [y]))) else Nx H3) := by
  subst hg htt hte
  refine ⟨fun i m H => ∃ rho' h' accD acc rest, Sp rho1 H1 rho' H ∧ Rl X.K F (Dn :: Xi) rho' h' H ∧ H Dn = some (.lst acc) ∧ Reps X.K F (Dn :: Xi) rho' H accD acc ∧ Run i h' rest ∧ L = accD ++ rest ∧ accD.length ≤ i ∧ m = n - i ∧ i ≤ n, ?_, ?_⟩
  · exact ⟨n, rho1, h1, [], [], L, sp_new hD, rl1.hide hD, upd_same, Reps.nil', r0, rfl, Nat.le_refl _, rfl, Nat.zero_le _⟩
  · rintro i m H ⟨rho', h', accD, acc, rest, sp, rl, hDn, ra, run, eL, hlen, rfl, hi⟩
    rcases step i h' rest hi run with ⟨rfl, rfl, st⟩ | ⟨hlt, x, o, hA, l2, ef, run2, er, go⟩
    · refine .inl ⟨st rho' H sp rl, fin rho' H acc sp rl hDn ?_⟩
      rw [eL, List.append_nil]; exact ra
    · obtain ⟨g1, g2⟩ := go rho' H sp rl
      obtain ⟨σ1, ea, ef⟩ := opt_inv ef
      obtain ⟨b, h3, eb, ef⟩ := bnd_inv ef
      obtain ⟨u, eu, ef⟩ := opt_inv ef
      refine .inr ⟨g1, fun H' => ∃ rho' h' accD acc rest, Sp rho1 H1 rho' H' ∧ Rl X.K F (Dn :: Xi) rho' h' H' ∧ H' Dn = some (.lst acc) ∧ Reps X.K F (Dn :: Xi) rho' H' accD acc ∧ Run (i + 1) h' rest ∧ L = accD ++ rest ∧ accD.length ≤ i + 1 ∧ i + 1 ≤ n, fun H' hN => ?_, fun xv H2 y => ?_⟩
      · obtain ⟨a1, a2, a3, a4, a5, b1, b2, b3, b4, b5, b6, b7, b8⟩ := hN
        exact ⟨n - (i + 1), by omega, a1, a2, a3, a4, a5, b1, b2, b3, b4, b5, b6, b7, rfl, b8⟩
      · obtain ⟨w1, w2, w3⟩ := g2 xv H2 y
        have spH2 := sp.trans w1
        -- the state of a turn
        have rel2 : Rel X.K F (Dn :: Xi) rho' σm h' σ H2 := ⟨w2, rel.len, fun j d ej => by
          obtain ⟨v, e1, e2⟩ := rel.en j d ej
          exact ⟨v, e1, Rep.mo spH2.mo _ _ (Rep.xi hD _ _ (Rep.mo s1.mo _ _ e2))⟩⟩
        refine ⟨Dn :: Xi, rho', wipeD σm own, h', x, σ1, rel2.wipe own, w3, ea, fun σ' rel' wp => ⟨?_, ?_⟩⟩
        · rw [wp own htg, wipe_wipe]
        · refine ⟨Dn :: Xi, rho', σ1, h', b, h3, u, rel', eb, eu, fun H3 rho3 s3 rl3 => ?_⟩
          have keepD : ∀ {Ha Hb ra rb ha}, Sp ra Ha rb Hb → Rl X.K F (Dn :: Xi) ra ha Ha → Ha Dn = some (.lst acc) → Hb Dn = some (.lst acc) := fun {Ha Hb ra rb ha} s r e => s.keep Dn _ e (r.xi Dn List.mem_cons_self).2
          have d2 : H2 Dn = some (.lst acc) := keepD w1 rl hDn
          have d3 : H3 Dn = some (.lst acc) := keepD s3 w2 d2
          have ra2 := Reps.mo w1.mo _ _ ra
          have ra3 := Reps.mo s3.mo _ _ ra2
          have sp3 := spH2.trans s3
          cases u with
          | true =>
            obtain ⟨d, h4, e4, ef⟩ := bnd_inv (show bnd (ev (CF T k) e σ1 h3) (fun d h4 => .ok (some d, h4)) = .ok (o, hA) from ef)
            cases ef
            refine ⟨Dn :: Xi, rho3, σ1, h3, d, _, rel'.on s3 rl3, e4, fun v H4 rho4 s4 rl4 rv => ?_⟩
            have d4 : H4 Dn = some (.lst acc) := keepD s4 rl3 d3
            have ra4 := Reps.mo s4.mo _ _ ra3
            obtain ⟨o1, o2⟩ := rl4.own (o := .lst (acc ++ [v]))
            refine ⟨acc, d4, ?_, rho4, _, accD ++ [d], acc ++ [v], l2, sp_upd (sp3.trans s4) hD, o1, upd_same, ?_, run2, ?_, ?_, hlt⟩
            · rw [ra.length]; omega
            · exact Reps.append' (Reps.mo o2 _ _ ra4) (Reps.cons' (Rep.mo o2 _ _ rv) Reps.nil')
            · rw [eL, er, List.append_assoc]; rfl
            · rw [List.length_append]; simp; omega
          | false =>
            have ef' : (.ok (none, h3) : R (Option D × MH)) = .ok (o, hA) := ef
            cases ef'
            exact ⟨rho3, _, accD, acc, l2, sp3, rl3, d3, ra3, run2, by rw [eL, er]; rfl, by omega, hlt⟩
theorem lookup_keep {sc scope : Scope} {x : Str} {q : NameKind} (hq : q ≠ .free) (h : scope.names.lookup x = some q) : (relS scope sc).names.lookup x = some q := lookup_relS_keep hq h
theorem asg_blk {X : Cx} {s : Shared} {H : Hp} {scope : Scope} {cl : List (Str × Addr)} {Cc : Addr} {fp : List Addr} : Asg (X.blk s H scope (compEnvC scope cl Cc X.env) fp) scope := by
  intro x h
  unfold locB at h
  split at h
  · rename_i e
    have : (relS scope X.env.scope).names.lookup x = some .local := lookup_keep (by decide) e
    exact ⟨.inl this, .inr this⟩
  · rename_i e
    have : (relS scope X.env.scope).names.lookup x = some .cell := lookup_keep (by decide) e
    refine ⟨.inr this, .inl ?_⟩
    show (scope.names.lookup x == some .cell) = true
    rw [e]; rfl
  · cases h
theorem pts_true {X : Cx} {k : Nat} : PTs X [] (RT X.K T F k (.bl true)) := by
  refine ⟨fun pins s σ H Q I hw => pts_nil.run pins s σ H Q I ?_⟩
  obtain ⟨Xi, rho, σm, h0, d, h', t, rel, ev, et, q⟩ := hw
  cases ev
  cases et
  exact q H rho Sp.refl rel.rl
/-- the parts of a comprehension -/
structure LcP (T : Tab) (F : Nat → Option Addr) (k : Nat) (X : Cx) (own : List Nat) (t : Tg) (it c e : Ex) (elt tg iter : Expr) (ifs : List Expr) (scope : Scope) : Prop where
  pi : PI X tg iter (RI X.K T F k it)
  ok : BlkOk X.N X.env.scope scope (own.map fun i => (X.N.getD i "", i))
  ow : (own.map fun i => (X.N.getD i "", i)).map (·.2) = own
  otg : tgIn own t = true
  hg : ∀ (s : Shared) (H : Hp) (Cc : Addr) (cl : List (Str × Addr)) (fp : List Addr), PG (X.blk s H scope (compEnvC scope cl Cc X.env) fp) tg (RG X.K F t)
  ht : ∀ (s : Shared) (H : Hp) (Cc : Addr) (cl : List (Str × Addr)) (fp : List Addr), PTs (X.blk s H scope (compEnvC scope cl Cc X.env) fp) ifs (RT X.K T F k c)
  he : ∀ (s : Shared) (H : Hp) (Cc : Addr) (cl : List (Str × Addr)) (fp : List Addr), PE (X.blk s H scope (compEnvC scope cl Cc X.env) fp) elt (RE X.K T F k e)
  hs : ∀ x, foldedSetIterable iter X.env x = pure x
theorem lc_parts {k : Nat} {X : Cx} {m : Bool} {own : List Nat} {t : Tg} {it c e : Ex} {elt tg iter : Expr} {ifs : List Expr} {scope : Scope} {pos : Pos} (A : Snd T F it) (C' : Snd T F c) (E' : Snd T F e) (C : Ctx T F k X)
    (h : chk T X.N false X.env.scope (.lc m own t it c e) (.ListComp elt [⟨tg, iter, ifs, 0⟩] scope pos) = true) : LcP T F k X own t it c e elt tg iter ifs scope := by
  unfold chk at h
  simp only [Bool.and_eq_true, decide_eq_true_eq] at h
  obtain ⟨⟨⟨⟨⟨⟨⟨h1, h2⟩, h3⟩, h4⟩, h5⟩, h6⟩, h7⟩, h8⟩ := h
  have Cb : ∀ (s : Shared) (H : Hp) (Cc : Addr) (cl : List (Str × Addr)) (fp : List Addr), Ctx T F k (X.blk s H scope (compEnvC scope cl Cc X.env) fp) := fun s H Cc cl fp =>
    ⟨C.calm, C.nd, C.room, C.grd, C.nms, C.bls, C.cst, C.gcd, C.fns⟩
  refine ⟨A.pi k X tg iter C h2, blkOk_by h3, h4, h6, fun s H Cc cl fp => (pg_both (X := X.blk s H scope (compEnvC scope cl Cc X.env) fp) C.calm C.nd asg_blk t).1 tg h5, fun s H Cc cl fp => ?_,
    fun s H Cc cl fp => E'.pe k (X.blk s H scope (compEnvC scope cl Cc X.env) fp) elt (Cb s H Cc cl fp) h8, no_set h1⟩
  cases ifs with
  | nil =>
    have hc : c = .bl true := by
      have h7' : isTrueC c = true := h7
      cases c with
      | bl b => cases b <;> first | rfl | cases h7'
      | _ => cases h7'
    subst hc
    exact pts_true (X := X.blk s H scope (compEnvC scope cl Cc X.env) fp)
  | cons q r =>
    cases r with
    | nil => exact pts_one (C'.pt k (X.blk s H scope (compEnvC scope cl Cc X.env) fp) q (Cb s H Cc cl fp) h7)
    | cons _ _ => cases h7
theorem lc_red {k : Nat} {X : Cx} {m : Bool} {own : List Nat} {t : Tg} {it c e : Ex} {σ : L2.St} {H : Hp} {Q : VK} (h6 : tgIn own t = true) (hw : RE X.K T F k (.lc m own t it c e) σ H Q) :
    tLc (RI X.K T F k it) (RG X.K F t) (RT X.K T F k c) (RE X.K T F k e) own σ H Q := by
  obtain ⟨Xi, rho, σm, h0, d, h', rel, ev0, q⟩ := hw
  obtain ⟨w, h1', e1, ev0⟩ := bnd_inv ev0
  obtain ⟨L, h2', e2, ea⟩ := bnd_inv ev0
  cases hi : itrOf w h1' with
  | none => rw [hi] at e2; cases e2
  | some itr =>
    rw [hi] at e2
    refine ⟨Xi, rho, σm, h0, w, h1', itr, rel, e1, hi, fun J H1 rho1 s1 rl1 wk Dn hD => ?_⟩
    have hys : ∀ b ∈ Dn :: Xi, b ∈ Xi ∨ H1 b = none := fun b hb => by
      rcases List.mem_cons.mp hb with z | z
      · exact .inr (by rw [z]; exact hD)
      · exact .inl z
    have fin : ∀ rho' H acc, Sp rho1 H1 rho' H → Rl X.K F (Dn :: Xi) rho' h2' H → H Dn = some (.lst acc) → Reps X.K F (Dn :: Xi) rho' H L acc → Q (.ref Dn) H := fun rho' H acc sp rl hd rr => by
      obtain ⟨rho3, s3, rl3, r3⟩ := alc_at rl (rl1.fresh hD).2 hd (Cont.l rr) ea sp hD
      exact q _ _ rho3 (s1.trans s3) rl3 r3
    cases itr with
    | things l =>
      obtain ⟨hz, e2⟩ := grd_inv (show grd (decide (l.length ≤ szL)) _ = .ok (L, h2') from e2)
      refine lc_run (Qd := fun H => Q (.ref Dn) H) (n := l.length) rfl rfl rfl h6 (of_decide_eq_true hz) rel s1 rl1 hD (fun i h' rest => lcL (fun x h2 => opt (asgD t x (wipeD σm own)) fun σ1 => bnd (ev (CF T k) c σ1 h2) fun b h3 => opt (truD (deref h3 b)) fun u => if u then bnd (ev (CF T k) e σ1 h3) fun d h4 => .ok (some d, h4) else .ok (none, h3)) (l.drop i) h' = .ok (rest, h2')) (by rw [List.drop_zero]; exact e2) (fun i h' rest hi run => ?_) fin
      by_cases hlt : i < l.length
      · have ed : l.drop i = l[i] :: l.drop (i + 1) := List.drop_eq_getElem_cons hlt
        rw [ed] at run
        obtain ⟨o, hA, f1, run⟩ := bnd_inv run
        obtain ⟨l2, hB, f2, run⟩ := bnd_inv run
        cases run
        refine .inr ⟨hlt, l[i], o, hA, l2, f1, f2, rfl, fun rho' H sp rl => ?_⟩
        exact (wk (Dn :: Xi) rho' H h' i hys sp rl).2 _ (List.getElem?_eq_getElem hlt)
      · have ed : l.drop i = [] := List.drop_eq_nil_of_le (by omega)
        rw [ed] at run
        cases run
        exact .inl ⟨rfl, rfl, fun rho' H sp rl => (wk (Dn :: Xi) rho' H _ i hys sp rl).1 (by omega)⟩
    | listAt j n =>
      obtain ⟨hz, e2⟩ := grd_inv (show grd (decide (n ≤ szL)) _ = .ok (L, h2') from e2)
      refine lc_run (Qd := fun H => Q (.ref Dn) H) (n := n) rfl rfl rfl h6 (of_decide_eq_true hz) rel s1 rl1 hD (fun i h' rest => lcW (fun x h2 => opt (asgD t x (wipeD σm own)) fun σ1 => bnd (ev (CF T k) c σ1 h2) fun b h3 => opt (truD (deref h3 b)) fun u => if u then bnd (ev (CF T k) e σ1 h3) fun d h4 => .ok (some d, h4) else .ok (none, h3)) j (n - i) i h' = .ok (rest, h2')) (by rw [Nat.sub_zero]; exact e2) (fun i h' rest hi run => ?_) fin
      by_cases hlt : i < n
      · obtain ⟨r, er⟩ : ∃ r, n - i = r + 1 := ⟨n - i - 1, by omega⟩
        have er2 : n - (i + 1) = r := by omega
        rw [er] at run
        have run' : (match h'[j]? with
          | some (.lst l) => match l[i]? with
            | some x => bnd ((fun x h2 => opt (asgD t x (wipeD σm own)) fun σ1 => bnd (ev (CF T k) c σ1 h2) fun b h3 => opt (truD (deref h3 b)) fun u => if u then bnd (ev (CF T k) e σ1 h3) fun d h4 => .ok (some d, h4) else .ok (none, h3)) x h') fun o h1 => bnd (lcW (fun x h2 => opt (asgD t x (wipeD σm own)) fun σ1 => bnd (ev (CF T k) c σ1 h2) fun b h3 => opt (truD (deref h3 b)) fun u => if u then bnd (ev (CF T k) e σ1 h3) fun d h4 => .ok (some d, h4) else .ok (none, h3)) j r (i + 1) h1) fun l h2 => .ok (ocons o l, h2)
            | none => .error .stuck
          | _ => (.error .stuck : R (List D × MH))) = .ok (rest, h2') := run
        split at run'
        · rename_i l el
          split at run'
          · rename_i x ex2
            obtain ⟨o, hA, f1, run'⟩ := bnd_inv run'
            obtain ⟨l2, hB, f2, run'⟩ := bnd_inv run'
            cases run'
            refine .inr ⟨hlt, x, o, hA, l2, f1, by rw [er2]; exact f2, rfl, fun rho' H sp rl => ?_⟩
            exact (wk (Dn :: Xi) rho' H h' i hys sp rl l el).2 _ ex2
          · cases run'
        · cases run'
      · have e0 : n - i = 0 := by omega
        rw [e0] at run
        have run' : (match h'[j]? with
          | some (.lst l) => if l.length ≤ i then (.ok ([], h') : R (List D × MH)) else .error .stuck
          | _ => .error .stuck) = .ok (rest, h2') := run
        split at run'
        · rename_i l el
          split at run'
          · rename_i hle
            cases run'
            exact .inl ⟨rfl, rfl, fun rho' H sp rl => (wk (Dn :: Xi) rho' H _ i hys sp rl l el).1 hle⟩
          · cases run'
        · cases run'
theorem snd_lc (m : Bool) (own : List Nat) (t : Tg) {it c e : Ex} (A : Snd T F it) (C' : Snd T F c) (E' : Snd T F e) : Snd T F (.lc m own t it c e) := by
  refine Snd.ofP (fun k X ex C h => ?_) (fun _ _ es => by unfold chks; rfl) (fun _ _ _ h => by unfold chk at h ⊢; exact h)
  have h' := h
  unfold chk at h
  split at h
  · have P := lc_parts A C' E' C h'
    refine ⟨⟨fun pins s σ H Q I hw => (pe_lc (own := own.map fun i => (X.N.getD i "", i)) C.calm C.nd P.pi P.ok P.hg P.ht P.he P.hs).run pins s σ H Q I ?_⟩, rfl⟩
    rw [P.ow]
    exact lc_red P.otg hw
  · cases h
/-- every expression is sound -/
theorem snd_all (T : Tab) (F : Nat → Option Addr) : ∀ x : Ex, Snd T F x ∧ SndAll T F x := by
  intro x
  induction x with
  | var i => exact ⟨snd_var i, .other fun _ _ _ => by unfold chks; rfl⟩
  | int i => exact ⟨snd_int i, .other fun _ _ _ => by unfold chks; rfl⟩
  | str i => exact ⟨snd_str i, .other fun _ _ _ => by unfold chks; rfl⟩
  | bl i => exact ⟨snd_bl i, .other fun _ _ _ => by unfold chks; rfl⟩
  | non => exact ⟨snd_non, .other fun _ _ _ => by unfold chks; rfl⟩
  | gint x i => exact ⟨snd_gint x i, .other fun _ _ _ => by unfold chks; rfl⟩
  | gfn x i => exact ⟨snd_gfn x i, .other fun _ _ _ => by unfold chks; rfl⟩
  | bin o m a b A B => exact ⟨snd_bin o m A.1 B.1, .other fun _ _ _ => by unfold chks; rfl⟩
  | neg a A => exact ⟨snd_neg A.1, .other fun _ _ _ => by unfold chks; rfl⟩
  | cmp o a b A B => exact ⟨snd_cmp o A.1 B.1, .other fun _ _ _ => by unfold chks; rfl⟩
  | chain o p a b c A B C => exact ⟨snd_chain o p A.1 B.1 C.1, .other fun _ _ _ => by unfold chks; rfl⟩
  | andd a b A B => exact ⟨snd_andd A.1 B.1, .other fun _ _ _ => by unfold chks; rfl⟩
  | orr a b A B => exact ⟨snd_orr A.1 B.1, .other fun _ _ _ => by unfold chks; rfl⟩
  | one a A => exact ⟨snd_one A.1, .other fun _ _ _ => by unfold chks; rfl⟩
  | nott a A => exact ⟨snd_nott A.1, .other fun _ _ _ => by unfold chks; rfl⟩
  | ite c a b C A B => exact ⟨snd_ite C.1 A.1 B.1, .other fun _ _ _ => by unfold chks; rfl⟩
  | nil => exact ⟨snd_nil, .nil⟩
  | cons a b A B => exact ⟨snd_cons A.1 B.1, .cons A.1 B.2⟩
  | tup a A => exact ⟨snd_tup A.1, .other fun _ _ _ => by unfold chks; rfl⟩
  | lst m a A => exact ⟨snd_lst m A.1, .other fun _ _ _ => by unfold chks; rfl⟩
  | dct m t => exact ⟨snd_dct m t, .other fun _ _ _ => by unfold chks; rfl⟩
  | dsp m ks a A => exact ⟨snd_dsp m ks A.1 A.2, .other fun _ _ _ => by unfold chks; rfl⟩
  | call x f a A => exact ⟨snd_call x f A.1, .other fun _ _ _ => by unfold chks; rfl⟩
  | callv i a A => exact ⟨snd_callv i A.1, .other fun _ _ _ => by unfold chks; rfl⟩
  | bi b m a A => exact ⟨snd_bi b m A.1, .other fun _ _ _ => by unfold chks; rfl⟩
  | isi t a A => exact ⟨snd_isi t A.1, .other fun _ _ _ => by unfold chks; rfl⟩
  | ix a b A B => exact ⟨snd_ix A.1 B.1, .other fun _ _ _ => by unfold chks; rfl⟩
  | slc m a b c A B C => exact ⟨snd_slc m A.1 B.1 C.1, .other fun _ _ _ => by unfold chks; rfl⟩
  | nopart => exact ⟨snd_nopart, .other fun _ _ _ => by unfold chks; rfl⟩
  | rev m a A => exact ⟨snd_rev m A.1, .other fun _ _ _ => by unfold chks; rfl⟩
  | me q a b A B => exact ⟨snd_me q A.1 B.1, .other fun _ _ _ => by unfold chks; rfl⟩
  | rng a A => exact ⟨snd_rng A.1, .other fun _ _ _ => by unfold chks; rfl⟩
  | enu a A => exact ⟨snd_enu, .other fun _ _ _ => by unfold chks; rfl⟩
  | zip a b A B => exact ⟨snd_zip, .other fun _ _ _ => by unfold chks; rfl⟩
  | lc m own t a b c A B C => exact ⟨snd_lc m own t A.1 B.1 C.1, .other fun _ _ _ => by unfold chks; rfl⟩
  | frz a A => exact ⟨snd_frz A.1, .other fun _ _ _ => by unfold chks; rfl⟩
end
end Mi
/-! Mi over the layer: statements. -/
namespace Mi
open PySem PySem.Spec PyProof.Rows L2

def isStar : Expr → Bool
  | .Starred .. => true
  | _ => false
def nmAt (sc : Scope) (line : Nat) : Expr → Option Str
  | .Name id pos => if sc.names.lookup id == some .local && pos.line == line then some id else none
  | _ => none
/-- which names a, b = x, y stores from the right -/
def swapT (sc : Scope) (ts vs : List Expr) (names : List Str) : Option (Option (List Str)) :=
    if !(ts.length == 2 || ts.length == 3) || vs.length != ts.length then some none else
    if vs.any isStar then some none else
    if names.length != ts.length || names.eraseDups.length != names.length then some none else
    if vs.all (foldedForSure 8) then some none else
    if vs.all (constantsAlone 8) then none else some (some names)
def swapF (sc : Scope) (t v : Expr) : Option (Option (List Str)) :=
  match t with
  | .Tuple ts _ _ => (match v with
    | .Tuple vs _ _ => swapT sc ts vs (ts.filterMap (nmAt sc ((ts.head?.map (·.pos.line)).getD 0)))
    | _ => some none)
  | .List _ _ => none
  | _ => some none
theorem swapF_ok {env : PySem.Env} {t v : Expr} {r : Option (List Str)} (hk : env.scope.kind = .function) (h : swapF env.scope t v = some r) : swappedStores [t] v env = pure r := by
  have hb : env.blockKind = .function := by unfold Env.blockKind; rw [hk]; rfl
  have e1 : (fun | Expr.Starred .. => true | _ => false : Expr → Bool) = isStar := by funext e; cases e <;> rfl
  have e2 : ∀ line : Nat, (fun | Expr.Name id pos => if env.kindOf id == some .local && pos.line == line then some id else none | _ => none : Expr → Option Str) = nmAt env.scope line := fun line => by funext e; cases e <;> rfl
  cases t with
  | Tuple ts a b =>
    cases v with
    | Tuple vs c d =>
      have h : swapT env.scope ts vs (ts.filterMap (nmAt env.scope ((ts.head?.map (·.pos.line)).getD 0))) = some r := h
      unfold swapT at h
      unfold swappedStores
      have hf : (ScopeKind.function != ScopeKind.function) = false := rfl
      simp only [hb, hf, Bool.or_false]
      split at h
      · rename_i q
        cases h
        rw [if_pos q]
      · rename_i q
        rw [if_neg q]
        split at h
        · rename_i q2
          cases h
          rw [← e1] at q2
          exact if_pos q2
        · rename_i q2
          rw [← e1] at q2
          refine Eq.trans (if_neg q2) ?_
          rw [← e2] at h
          split at h
          · rename_i q3
            cases h
            exact if_pos q3
          · rename_i q3
            refine Eq.trans (if_neg q3) ?_
            split at h
            · rename_i q4
              cases h
              exact if_pos q4
            · rename_i q4
              refine Eq.trans (if_neg q4) ?_
              split at h
              · cases h
              · rename_i q5
                cases h
                exact if_neg q5
    | _ => cases h; rfl
  | List ts a => cases h
  | _ => cases v <;> (cases h; rfl)
theorem not_comp {e : Expr} {t : Option Expr} {l : Nat} {env : PySem.Env} (h : isComp e = false) : swapsWith e t l env = pure false := by
  cases e <;> first | rfl | cases h
/-- a name stored plainly -/
def plainAt (N : List Str) (sc : Scope) (i : Nat) (x : Str) : Bool := decide (N[i]? = some x) && decide (sc.names.lookup x = some .local)
def fnKind (sc : Scope) : Bool := decide (sc.kind = .function)
/-- t = x -/
def chkA (T : Tab) (N : List Str) (sc : Scope) (t : Tg) (x : Ex) (tg v : Expr) : Bool :=
  fnKind sc && chk T N false sc x v && (match swapF sc tg v with
    | none => false
    | some none => chkT N sc t tg && (!isComp v || (match t with
      | .name i => (match tg with
        | .Name y py => (match v with
          | .ListComp _ [⟨_, _, _, 0⟩] scope pos => plainAt N sc i y && (py.line == pos.line) && !(scope.names.any fun (n, k) => n == y && (k == .local || k == .cell)) && (match x with
            | .lc .. => true
            | _ => false)
          | _ => false)
        | _ => false)
      | _ => false))
    | some (some names) => (match x with
      | .tup es => (match t with
        | .tup (.cons (.name i) (.cons (.name j) .nil)) => (match tg with
          | .Tuple [.Name a _, .Name b _] _ _ => (match v with
            | .Tuple [u, w] _ _ => decide (names = [a, b]) && plainAt N sc i a && plainAt N sc j b && decide (i ≠ j) && chks T N sc es [u, w]
            | _ => false)
          | _ => false)
        | .tup (.cons (.name i) (.cons (.name j) (.cons (.name l) .nil))) => (match tg with
          | .Tuple [.Name a _, .Name b _, .Name c _] _ _ => (match v with
            | .Tuple [u, w, z] _ _ => decide (names = [a, b, c]) && plainAt N sc i a && plainAt N sc j b && plainAt N sc l c && decide (i ≠ j) && decide (i ≠ l) && decide (j ≠ l) && chks T N sc es [u, w, z]
            | _ => false)
          | _ => false)
        | _ => false)
      | _ => false))
mutual
def chkS (T : Tab) (N : List Str) (sc : Scope) : St → Stmt → Bool
  | .pass, s => match s with
    | .Pass _ => true
    | .Expr (.Constant (.str _) _ _) _ => true
    | _ => false
  | .asg t e, s => match s with
    | .Assign [tg] v _ => chkA T N sc t e tg v
    | _ => false
  | .put o i e, s => match s with
    | .Assign [.Subscript a b _] v _ => noSlice b && chk T N false sc o a && chk T N false sc i b && chk T N false sc e v
    | _ => false
  | .put2 o i p j e, s => match s with
    | .Assign [.Tuple [.Subscript a b p1, .Subscript c d p2] kt pt] v _ => fnKind sc && !isComp v && noSlice b && noSlice d && decide (swapF sc (.Tuple [.Subscript a b p1, .Subscript c d p2] kt pt) v = some none) &&
        chk T N false sc o a && chk T N false sc i b && chk T N false sc p c && chk T N false sc j d && chk T N false sc e v
    | _ => false
  | .expr e, s => match s with
    | .Expr v _ => !isComp v && chk T N false sc e v
    | _ => false
  | .ret e, s => match s with
    | .Return (some v) _ => chk T N false sc e v
    | _ => false
  | .ret0, s => match s with
    | .Return none _ => true
    | _ => false
  | .ite c a b, s => match s with
    | .If x y z _ => chk T N false sc c x && chkB T N sc a y && chkB T N sc b z
    | _ => false
  | .forr t it b, s => match s with
    | .For tg iter body [] _ => noSet iter && chkT N sc t tg && chk T N true sc it iter && chkB T N sc b body
    | _ => false
  | .whil c b, s => match s with
    | .While x body [] _ => chk T N false sc c x && chkB T N sc b body
    | _ => false
  | .brk, s => match s with
    | .Break _ => true
    | _ => false
  | .cnt, s => match s with
    | .Continue _ => true
    | _ => false
  | .stuck, _ => true
  | .nil, _ => false
  | .cons _ _, _ => false
def chkB (T : Tab) (N : List Str) (sc : Scope) : St → List Stmt → Bool
  | .nil, l => match l with
    | [] => true
    | _ => false
  | .cons a b, l => match l with
    | s :: r => chkS T N sc a s && chkB T N sc b r
    | _ => false
  | .pass, _ => false
  | .asg _ _, _ => false
  | .put _ _ _, _ => false
  | .put2 _ _ _ _ _, _ => false
  | .expr _, _ => false
  | .ret _, _ => false
  | .ret0, _ => false
  | .ite _ _ _, _ => false
  | .forr _ _ _, _ => false
  | .whil _ _, _ => false
  | .brk, _ => false
  | .cnt, _ => false
  | .stuck, _ => false
end

section
variable {K : PySem.W.Frag} {F : Nat → Option Addr}
/-- what is wanted behind a statement -/
def EndR (K : PySem.W.Frag) (F : Nat → Option Addr) (Xi : List Addr) (rho : Adrs) (H : Hp) (fl : Fl) (σm : Env) (h : MH) (D' : Ends) : Prop :=
  match fl with
  | .nx => ∀ σ' H' rho', Sp rho H rho' H' → Rel K F Xi rho' σm h σ' H' → D'.nx σ' H'
  | .bk => ∀ σ' H' rho', Sp rho H rho' H' → Rel K F Xi rho' σm h σ' H' → D'.bk σ' H'
  | .ct => ∀ σ' H' rho', Sp rho H rho' H' → Rel K F Xi rho' σm h σ' H' → D'.ct σ' H'
  | .rt d => ∀ v H' rho', Sp rho H rho' H' → Rl K F Xi rho' h H' → Rep K F Xi rho' H' d v → D'.rt v H'
def RS (K : PySem.W.Frag) (T : Tab) (F : Nat → Option Addr) (k : Nat) (x : St) : TS := fun D' σ H =>
  ∃ Xi rho σm h fl σm' h', Rel K F Xi rho σm h σ H ∧ exec (CF T k) x σm h = .ok ((fl, σm'), h') ∧ EndR K F Xi rho H fl σm' h' D'
theorem EndR.on {Xi : List Addr} {rho rho' : Adrs} {H H' : Hp} {fl : Fl} {σm : Env} {h : MH} {D' : Ends} (e : EndR K F Xi rho H fl σm h D') (s : Sp rho H rho' H') : EndR K F Xi rho' H' fl σm h D' := by
  cases fl with
  | nx => exact fun σ2 H2 r2 s2 r => e σ2 H2 r2 (s.trans s2) r
  | bk => exact fun σ2 H2 r2 s2 r => e σ2 H2 r2 (s.trans s2) r
  | ct => exact fun σ2 H2 r2 s2 r => e σ2 H2 r2 (s.trans s2) r
  | rt d => exact fun v H2 r2 s2 rl r => e v H2 r2 (s.trans s2) rl r
/-- behind the end of what is left of a loop -/
theorem EndR.loop {Xi : List Addr} {rho : Adrs} {H : Hp} {fl : Fl} {σm : Env} {h : MH} {D' : Ends} {N M : L2.St → Hp → Prop} (e : EndR K F Xi rho H fl σm h D') (nb : fl ≠ .bk) (nc : fl ≠ .ct) : EndR K F Xi rho H fl σm h { D' with bk := N, ct := M } := by
  cases fl with
  | nx => exact e
  | bk => exact absurd rfl nb
  | ct => exact absurd rfl nc
  | rt d => exact e
end

section
variable {T : Tab} {F : Nat → Option Addr}
structure SndS (T : Tab) (F : Nat → Option Addr) (x : St) : Prop where
  ps : ∀ k X st, Ctx T F k X → Asg X X.env.scope → PassesOwn (model X.prog X.w) X.A X.env X.xe → chkS T X.N X.env.scope x st = true → PS X st (RS X.K T F k x)
  pb : ∀ k X sts, Ctx T F k X → Asg X X.env.scope → PassesOwn (model X.prog X.w) X.A X.env X.xe → chkB T X.N X.env.scope x sts = true → PSs X sts (RS X.K T F k x)
theorem SndS.of {x : St} (ps : ∀ k X st, Ctx T F k X → Asg X X.env.scope → PassesOwn (model X.prog X.w) X.A X.env X.xe → chkS T X.N X.env.scope x st = true → PS X st (RS X.K T F k x)) (nb : ∀ N sc l, chkB T N sc x l = false) : SndS T F x :=
  ⟨ps, fun k X sts _ _ _ h => (by rw [nb] at h; cases h)⟩
theorem PS.to {X : Cx} {st : Stmt} {t u : TS} (p : PS X st t) (h : ∀ D σ H, u D σ H → t D σ H) : PS X st u := ⟨fun pins s σ H D I hw => p.run pins s σ H D I (h D σ H hw)⟩
theorem PSs.to {X : Cx} {st : List Stmt} {t u : TS} (p : PSs X st t) (h : ∀ D σ H, u D σ H → t D σ H) : PSs X st u := ⟨fun pins s σ H D I hw => p.run pins s σ H D I (h D σ H hw)⟩
theorem sst_nil : SndS T F .nil := by
  refine ⟨fun k X st C as hp h => (by unfold chkS at h; cases h), fun k X sts C as hp h => ?_⟩
  cases sts with
  | nil =>
    refine PSs.to pss_nil fun D σ H w => ?_
    obtain ⟨Xi, rho, σm, h0, fl, σm', h', rel, ev, q⟩ := w
    cases ev
    exact q σ H rho Sp.refl rel
  | cons _ _ => unfold chkB at h; cases h
theorem sst_cons {a b : St} (A : SndS T F a) (B : SndS T F b) : SndS T F (.cons a b) := by
  refine ⟨fun k X st C as hp h => (by unfold chkS at h; cases h), fun k X sts C as hp h => ?_⟩
  cases sts with
  | nil => unfold chkB at h; cases h
  | cons s r =>
    unfold chkB at h
    simp only [Bool.and_eq_true] at h
    refine PSs.to (pss_cons (A.ps k X s C as hp h.1) (B.pb k X r C as hp h.2)) fun D σ H w => ?_
    obtain ⟨Xi, rho, σm, h0, fl, σm', h', rel, ev, q⟩ := w
    obtain ⟨⟨f1, σ1⟩, h1, e1, ev⟩ := bnd_inv ev
    cases f1 with
    | nx => exact ⟨Xi, rho, σm, h0, .nx, σ1, h1, rel, e1, fun σ2 H2 rho2 s2 r2 => ⟨Xi, rho2, σ1, h1, fl, σm', h', r2, ev, q.on s2⟩⟩
    | bk => cases ev; exact ⟨Xi, rho, σm, h0, .bk, _, _, rel, e1, q⟩
    | ct => cases ev; exact ⟨Xi, rho, σm, h0, .ct, _, _, rel, e1, q⟩
    | rt d => cases ev; exact ⟨Xi, rho, σm, h0, .rt d, _, _, rel, e1, q⟩
theorem sst_pass : SndS T F .pass := by
  refine SndS.of (fun k X st C as hp h => ?_) fun _ _ _ => by unfold chkB; rfl
  have red : ∀ D σ H, RS X.K T F k .pass D σ H → tNext D σ H := fun D σ H w => by
    obtain ⟨Xi, rho, σm, h0, fl, σm', h', rel, ev, q⟩ := w
    cases ev
    exact q σ H rho Sp.refl rel
  unfold chkS at h
  split at h
  · exact PS.to ps_pass red
  · exact PS.to ps_doc red
  · cases h
theorem sst_brk : SndS T F .brk := by
  refine SndS.of (fun k X st C as hp h => ?_) fun _ _ _ => by unfold chkB; rfl
  unfold chkS at h
  split at h
  · refine PS.to ps_break fun D σ H w => ?_
    obtain ⟨Xi, rho, σm, h0, fl, σm', h', rel, ev, q⟩ := w
    cases ev
    exact q σ H rho Sp.refl rel
  · cases h
theorem sst_cnt : SndS T F .cnt := by
  refine SndS.of (fun k X st C as hp h => ?_) fun _ _ _ => by unfold chkB; rfl
  unfold chkS at h
  split at h
  · refine PS.to ps_continue fun D σ H w => ?_
    obtain ⟨Xi, rho, σm, h0, fl, σm', h', rel, ev, q⟩ := w
    cases ev
    exact q σ H rho Sp.refl rel
  · cases h
theorem sst_stuck : SndS T F .stuck := by
  refine SndS.of (fun k X st C as hp h => ?_) fun _ _ _ => by unfold chkB; rfl
  refine PS.to ps_never fun D σ H w => ?_
  obtain ⟨Xi, rho, σm, h0, fl, σm', h', rel, ev, q⟩ := w
  cases ev
theorem sst_expr (e : Ex) : SndS T F (.expr e) := by
  refine SndS.of (fun k X st C as hp h => ?_) fun _ _ _ => by unfold chkB; rfl
  unfold chkS at h
  split at h
  · simp only [Bool.and_eq_true, Bool.not_eq_true'] at h
    refine PS.to (ps_expr ((snd_all T F e).1.pe k X _ C h.2) (not_comp h.1)) fun D σ H w => ?_
    obtain ⟨Xi, rho, σm, h0, fl, σm', h', rel, ev, q⟩ := w
    obtain ⟨x, h1, e1, ev⟩ := bnd_inv ev
    cases ev
    exact ⟨Xi, rho, σm, h0, x, _, rel, e1, fun v H2 rho2 s2 rl rv => q σ H2 rho2 s2 (rel.on s2 rl)⟩
  · cases h
theorem sst_ret (e : Ex) : SndS T F (.ret e) := by
  refine SndS.of (fun k X st C as hp h => ?_) fun _ _ _ => by unfold chkB; rfl
  unfold chkS at h
  split at h
  · refine PS.to (ps_ret ((snd_all T F e).1.pe k X _ C h)) fun D σ H w => ?_
    obtain ⟨Xi, rho, σm, h0, fl, σm', h', rel, ev, q⟩ := w
    obtain ⟨x, h1, e1, ev⟩ := bnd_inv ev
    cases ev
    exact ⟨Xi, rho, σm, h0, x, _, rel, e1, fun v H2 rho2 s2 rl rv => q v H2 rho2 s2 rl rv⟩
  · cases h
theorem sst_ret0 : SndS T F .ret0 := by
  refine SndS.of (fun k X st C as hp h => ?_) fun _ _ _ => by unfold chkB; rfl
  unfold chkS at h
  split at h
  · refine PS.to ps_retN fun D σ H w => ?_
    obtain ⟨Xi, rho, σm, h0, fl, σm', h', rel, ev, q⟩ := w
    cases ev
    exact q .non H rho Sp.refl rel.rl (by unfold Rep; rfl)
  · cases h
theorem sst_ite (c : Ex) {a b : St} (A : SndS T F a) (B : SndS T F b) : SndS T F (.ite c a b) := by
  refine SndS.of (fun k X st C as hp h => ?_) fun _ _ _ => by unfold chkB; rfl
  unfold chkS at h
  split at h
  · simp only [Bool.and_eq_true] at h
    refine PS.to (ps_if ((snd_all T F c).1.pt k X _ C h.1.1) (A.pb k X _ C as hp h.1.2) (B.pb k X _ C as hp h.2)) fun D σ H w => ?_
    obtain ⟨Xi, rho, σm, h0, fl, σm', h', rel, ev, q⟩ := w
    obtain ⟨x, h1, e1, ev⟩ := bnd_inv ev
    obtain ⟨t, et, ev⟩ := opt_inv ev
    refine ⟨Xi, rho, σm, h0, x, h1, t, rel, e1, et, fun H2 rho2 s2 rl => ?_⟩
    cases t with
    | true =>
      rw [if_pos rfl]
      exact ⟨Xi, rho2, σm, h1, fl, σm', h', rel.on s2 rl, ev, q.on s2⟩
    | false =>
      rw [if_neg Bool.false_ne_true]
      exact ⟨Xi, rho2, σm, h1, fl, σm', h', rel.on s2 rl, ev, q.on s2⟩
  · cases h
/-! ### loops -/
theorem whl_nb {c : Env → MH → R (Bool × MH)} {b : Env → MH → R ((Fl × Env) × MH)} : ∀ {n : Nat} {σ σ' : Env} {h h' : MH} {fl : Fl}, whlN c b n σ h = .ok ((fl, σ'), h') → fl ≠ .bk ∧ fl ≠ .ct
  | 0, _, _, _, _, _, e => by cases e
  | n + 1, σ, σ', h, h', fl, e => by
    obtain ⟨t, h1, _, e⟩ := bnd_inv e
    cases t with
    | false => cases e; exact ⟨Fl.noConfusion, Fl.noConfusion⟩
    | true =>
      obtain ⟨⟨f, σ2⟩, h2, _, e⟩ := bnd_inv (show bnd _ _ = _ from e)
      cases f with
      | nx => exact whl_nb e
      | ct => exact whl_nb e
      | bk => cases e; exact ⟨Fl.noConfusion, Fl.noConfusion⟩
      | rt d => cases e; exact ⟨Fl.noConfusion, Fl.noConfusion⟩
theorem sst_whil (c : Ex) {b : St} (B : SndS T F b) : SndS T F (.whil c b) := by
  refine SndS.of (fun k X st C as hp h => ?_) fun _ _ _ => by unfold chkB; rfl
  unfold chkS at h
  split at h
  · simp only [Bool.and_eq_true] at h
    refine PS.to (ps_while hp ((snd_all T F c).1.pt k X _ C h.1) (B.pb k X _ C as hp h.2)) fun D σ H w => ?_
    obtain ⟨Xi, rho, σm, h0, fl, σm', h', rel, ev, q⟩ := w
    have ev : whlN (fun σ1 h1 => bnd (Mi.ev (CF T k) c σ1 h1) fun x h2 => opt (truD (deref h2 x)) fun t => .ok (t, h2)) (fun σ1 h1 => exec (CF T k) b σ1 h1) wfuel σm h0 = .ok ((fl, σm'), h') := ev
    generalize wfuel = n at ev
    refine ⟨fun m σ2 H2 => ∃ rho2 σm2 h2, Sp rho H rho2 H2 ∧ Rel X.K F Xi rho2 σm2 h2 σ2 H2 ∧ whlN (fun σ1 h1 => bnd (Mi.ev (CF T k) c σ1 h1) fun x h2 => opt (truD (deref h2 x)) fun t => .ok (t, h2)) (fun σ1 h1 => exec (CF T k) b σ1 h1) m σm2 h2 = .ok ((fl, σm'), h'),
      ⟨n, rho, σm, h0, Sp.refl, rel, ev⟩, ?_⟩
    rintro m σ2 H2 ⟨rho2, σm2, h2, s2, r2, ev2⟩
    cases m with
    | zero => cases ev2
    | succ m =>
      obtain ⟨t, h3, e3, ev2⟩ := bnd_inv ev2
      obtain ⟨x, h4, e4, e5⟩ := bnd_inv e3
      obtain ⟨t2, et, e5⟩ := opt_inv e5
      cases e5
      refine ⟨Xi, rho2, σm2, h2, x, _, _, r2, e4, et, fun H3 rho3 s3 rl3 => ?_⟩
      have s23 := s2.trans s3
      have r3 := r2.on s3 rl3
      cases t with
      | false =>
        simp only [Bool.false_eq_true, if_false]
        cases ev2
        exact q _ _ _ s23 r3
      | true =>
        simp only [if_true]
        obtain ⟨⟨f, σm4⟩, h5, e6, ev2⟩ := bnd_inv (show bnd _ _ = _ from ev2)
        refine ⟨fun σ4 H4 => ∃ rho4, Sp rho H rho4 H4 ∧ Rel X.K F Xi rho4 σm4 h5 σ4 H4 ∧ (f = .nx ∨ f = .ct), ?_, ?_⟩
        · rintro σ4 H4 ⟨rho4, s4, r4, hf⟩
          refine ⟨m, Nat.lt_succ_self _, rho4, σm4, h5, s4, r4, ?_⟩
          rcases hf with rfl | rfl <;> exact ev2
        · refine ⟨Xi, rho3, σm2, _, f, σm4, h5, r3, e6, ?_⟩
          cases f with
          | nx => exact fun σ5 H5 rho5 s5 r5 => ⟨rho5, s23.trans s5, r5, .inl rfl⟩
          | ct => exact fun σ5 H5 rho5 s5 r5 => ⟨rho5, s23.trans s5, r5, .inr rfl⟩
          | bk => cases ev2; exact fun σ5 H5 rho5 s5 r5 => q σ5 H5 rho5 (s23.trans s5) r5
          | rt d => cases ev2; exact fun v H5 rho5 s5 rl5 r5 => q v H5 rho5 (s23.trans s5) rl5 r5
  · cases h
/-- the turns of a for -/
theorem for_run {X : Cx} {k n : Nat} {t : Tg} {b : St} {g : TG} {tb : TS} {Xi : List Addr} {rho1 : Adrs} {σm : Env} {h1 : MH} {σ : L2.St} {H1 : Hp} {J : It} {fl : Fl} {σf : Env} {hf : MH} {D' : Ends} (hg : g = RG X.K F t) (htb : tb = RS X.K T F k b)
    (r1 : Rel X.K F Xi rho1 σm h1 σ H1) (q : EndR X.K F Xi rho1 H1 fl σf hf D') (Run : Nat → Env → MH → Prop) (r0 : Run 0 σm h1)
    (step : ∀ i σ2 h', Run i σ2 h' → i ≤ n → (((fl, σf), hf) = ((Fl.nx, σ2), h') ∧ ∀ rho' H, Sp rho1 H1 rho' H → Rl X.K F Xi rho' h' H → J.stop i H) ∨
      (i < n ∧ ∃ x f σ3 hA, (opt (asgD t x σ2) fun σ4 => exec (CF T k) b σ4 h') = .ok ((f, σ3), hA) ∧ (match f with
        | .nx => Run (i + 1) σ3 hA
        | .ct => Run (i + 1) σ3 hA
        | .bk => ((fl, σf), hf) = ((Fl.nx, σ3), hA)
        | .rt d => ((fl, σf), hf) = ((Fl.rt d, σ3), hA)) ∧
        ∀ rho' H, Sp rho1 H1 rho' H → Rl X.K F Xi rho' h' H → J.go i H ∧ ∀ xv H2, J.yld i H xv H2 → Sp rho' H rho' H2 ∧ Rl X.K F Xi rho' h' H2 ∧ Rep X.K F Xi rho' H2 x xv)) :
    ∃ W : Nat → Nat → L2.St → Hp → Prop, (∃ m, W 0 m σ H1) ∧ ∀ i m σ H, W i m σ H →
      (J.stop i H ∧ D'.nx σ H) ∨ (J.go i H ∧ ∃ N : L2.St → Hp → Prop, (∀ σ' H', N σ' H' → ∃ m', m' < m ∧ W (i + 1) m' σ' H') ∧ ∀ x H', J.yld i H x H' → g x σ H' fun σ2 H2 => tb { D' with nx := N, ct := N, bk := D'.nx } σ2 H2) := by
  subst hg htb
  refine ⟨fun i m σ2 H => ∃ rho' σm2 h', Sp rho1 H1 rho' H ∧ Rel X.K F Xi rho' σm2 h' σ2 H ∧ Run i σm2 h' ∧ m = n - i ∧ i ≤ n, ⟨n, rho1, σm, h1, Sp.refl, r1, r0, rfl, Nat.zero_le _⟩, ?_⟩
  rintro i m σ2 H ⟨rho', σm2, h', sp, rel, run, rfl, hi⟩
  rcases step i σm2 h' run hi with ⟨e, st⟩ | ⟨hlt, x, f, σ3, hA, ef, hf2, go⟩
  · cases e
    exact .inl ⟨st rho' H sp rel.rl, q _ _ _ sp rel⟩
  · obtain ⟨g1, g2⟩ := go rho' H sp rel.rl
    refine .inr ⟨g1, fun σ4 H4 => ∃ rho4, Sp rho1 H1 rho4 H4 ∧ Rel X.K F Xi rho4 σ3 hA σ4 H4 ∧ (f = .nx ∨ f = .ct), ?_, ?_⟩
    · rintro σ4 H4 ⟨rho4, s4, r4, hff⟩
      refine ⟨n - (i + 1), by omega, rho4, σ3, hA, s4, r4, ?_, rfl, hlt⟩
      rcases hff with rfl | rfl <;> exact hf2
    · intro xv H2 y
      obtain ⟨w1, w2, w3⟩ := g2 xv H2 y
      obtain ⟨σ4, ea, ef⟩ := opt_inv ef
      refine ⟨Xi, rho', σm2, h', x, σ4, rel.on w1 w2, w3, ea, fun σ' rel' _ => ?_⟩
      refine ⟨Xi, rho', σ4, h', f, σ3, hA, rel', ef, ?_⟩
      have sp2 := sp.trans w1
      cases f with
      | nx => exact fun σ5 H5 rho5 s5 r5 => ⟨rho5, sp2.trans s5, r5, .inl rfl⟩
      | ct => exact fun σ5 H5 rho5 s5 r5 => ⟨rho5, sp2.trans s5, r5, .inr rfl⟩
      | bk => cases hf2; exact fun σ5 H5 rho5 s5 r5 => q σ5 H5 rho5 (sp2.trans s5) r5
      | rt d => cases hf2; exact fun v H5 rho5 s5 rl5 r5 => q v H5 rho5 (sp2.trans s5) rl5 r5
theorem sst_forr (t : Tg) (it : Ex) {b : St} (B : SndS T F b) : SndS T F (.forr t it b) := by
  refine SndS.of (fun k X st C as hp h => ?_) fun _ _ _ => by unfold chkB; rfl
  unfold chkS at h
  split at h
  · simp only [Bool.and_eq_true] at h
    obtain ⟨⟨⟨h1, h2⟩, h3⟩, h4⟩ := h
    refine PS.to (ps_for hp C.calm ((snd_all T F it).1.pi k X _ _ C h3) ((pg_both (F := F) C.calm C.nd as t).1 _ h2) (B.pb k X _ C as hp h4) (no_set h1)) fun D' σ H w => ?_
    obtain ⟨Xi, rho, σm, h0, fl, σm', h', rel, ev, q⟩ := w
    obtain ⟨w, h1', e1, ev⟩ := bnd_inv ev
    cases hi : itrOf w h1' with
    | none => rw [hi] at ev; cases ev
    | some itr =>
      rw [hi] at ev
      refine ⟨Xi, rho, σm, h0, w, h1', itr, rel, e1, hi, fun J H1 rho1 s1 rl1 wk => ?_⟩
      have hys : ∀ b ∈ Xi, b ∈ Xi ∨ H1 b = none := fun b hb => .inl hb
      cases itr with
      | things l =>
        have ev : forL (fun x σ1 h2 => opt (asgD t x σ1) fun σ2 => exec (CF T k) b σ2 h2) l σm h1' = .ok ((fl, σm'), h') := ev
        refine for_run (n := l.length) rfl rfl (rel.on s1 rl1) (q.on s1) (fun i σ2 h2 => forL (fun x σ1 h2 => opt (asgD t x σ1) fun σ2 => exec (CF T k) b σ2 h2) (l.drop i) σ2 h2 = .ok ((fl, σm'), h')) (by rw [List.drop_zero]; exact ev) fun i σ2 h2 run hi => ?_
        by_cases hlt : i < l.length
        · have ed : l.drop i = l[i] :: l.drop (i + 1) := List.drop_eq_getElem_cons hlt
          rw [ed] at run
          obtain ⟨⟨f, σ3⟩, hA, f1, run⟩ := bnd_inv run
          refine .inr ⟨hlt, l[i], f, σ3, hA, f1, ?_, fun rho' H sp rl => (wk Xi rho' H h2 i hys sp rl).2 _ (List.getElem?_eq_getElem hlt)⟩
          cases f with
          | nx => exact run
          | ct => exact run
          | bk => exact (ok_inv run).symm
          | rt d => exact (ok_inv run).symm
        · have ed : l.drop i = [] := List.drop_eq_nil_of_le (by omega)
          rw [ed] at run
          exact .inl ⟨(ok_inv run).symm, fun rho' H sp rl => (wk Xi rho' H _ i hys sp rl).1 (by omega)⟩
      | listAt j n =>
        have ev : forW (fun x σ1 h2 => opt (asgD t x σ1) fun σ2 => exec (CF T k) b σ2 h2) j n 0 σm h1' = .ok ((fl, σm'), h') := ev
        refine for_run (n := n) rfl rfl (rel.on s1 rl1) (q.on s1) (fun i σ2 h2 => forW (fun x σ1 h2 => opt (asgD t x σ1) fun σ2 => exec (CF T k) b σ2 h2) j (n - i) i σ2 h2 = .ok ((fl, σm'), h')) (by rw [Nat.sub_zero]; exact ev) fun i σ2 h2 run hi => ?_
        by_cases hlt : i < n
        · obtain ⟨r, er⟩ : ∃ r, n - i = r + 1 := ⟨n - i - 1, by omega⟩
          have er2 : n - (i + 1) = r := by omega
          rw [er] at run
          have run' : (match h2[j]? with
            | some (.lst l) => match l[i]? with
              | some x => bnd ((fun x σ1 h2 => opt (asgD t x σ1) fun σ2 => exec (CF T k) b σ2 h2) x σ2 h2) fun p h1 => match p.1 with
                | .nx => forW (fun x σ1 h2 => opt (asgD t x σ1) fun σ2 => exec (CF T k) b σ2 h2) j r (i + 1) p.2 h1
                | .ct => forW (fun x σ1 h2 => opt (asgD t x σ1) fun σ2 => exec (CF T k) b σ2 h2) j r (i + 1) p.2 h1
                | .bk => .ok ((.nx, p.2), h1)
                | .rt d => .ok ((.rt d, p.2), h1)
              | none => .error .stuck
            | _ => (.error .stuck : R ((Fl × Env) × MH))) = .ok ((fl, σm'), h') := run
          split at run'
          · rename_i l el
            split at run'
            · rename_i x ex2
              obtain ⟨⟨f, σ3⟩, hA, f1, run'⟩ := bnd_inv run'
              refine .inr ⟨hlt, x, f, σ3, hA, f1, ?_, fun rho' H sp rl => (wk Xi rho' H h2 i hys sp rl l el).2 _ ex2⟩
              cases f with
              | nx => show forW _ j (n - (i + 1)) (i + 1) _ _ = _; rw [er2]; exact run'
              | ct => show forW _ j (n - (i + 1)) (i + 1) _ _ = _; rw [er2]; exact run'
              | bk => exact (ok_inv run').symm
              | rt d => exact (ok_inv run').symm
            · cases run'
          · cases run'
        · have e0 : n - i = 0 := by omega
          rw [e0] at run
          have run' : (match h2[j]? with
            | some (.lst l) => if l.length ≤ i then (.ok ((.nx, σ2), h2) : R ((Fl × Env) × MH)) else .error .stuck
            | _ => .error .stuck) = .ok ((fl, σm'), h') := run
          split at run'
          · rename_i l el
            split at run'
            · rename_i hle
              exact .inl ⟨(ok_inv run').symm, fun rho' H sp rl => (wk Xi rho' H _ i hys sp rl l el).1 hle⟩
            · cases run'
          · cases run'
  · cases h
/-! ### assignments -/
theorem fn_kind {sc : Scope} (h : fnKind sc = true) : sc.kind = .function := of_decide_eq_true h
theorem plain_at {N : List Str} {sc : Scope} {i : Nat} {x : Str} (h : plainAt N sc i x = true) : N[i]? = some x ∧ sc.names.lookup x = some .local := by
  unfold plainAt at h
  simp only [Bool.and_eq_true, decide_eq_true_eq] at h
  exact h
theorem asg_tup2 {i j : Nat} {l : List D} {σ σ' : Env} (e : asgD (.tup (.cons (.name i) (.cons (.name j) .nil))) (.tup l) σ = some σ') : ∃ a b, l = [a, b] ∧ σ' = (σ.set i (some a)).set j (some b) := by
  match l, e with
  | [a, b], e => cases e; exact ⟨a, b, rfl, rfl⟩
theorem asg_tup3 {i j k : Nat} {l : List D} {σ σ' : Env} (e : asgD (.tup (.cons (.name i) (.cons (.name j) (.cons (.name k) .nil)))) (.tup l) σ = some σ') :
    ∃ a b c, l = [a, b, c] ∧ σ' = ((σ.set i (some a)).set j (some b)).set k (some c) := by
  match l, e with
  | [a, b, c], e => cases e; exact ⟨a, b, c, rfl, rfl⟩
theorem ea_one {tg : Expr} {env : PySem.Env} (h : noStar tg = true) : (assignEach [tg] env).map (·.2) = [assign tg env] := by
  rw [asg_cons h]; rfl
theorem chkT_star {N : List Str} {sc : Scope} {t : Tg} {tg : Expr} (h : chkT N sc t tg = true) : noStar tg = true := by
  cases tg with
  | Starred _ _ => cases t <;> (unfold chkT at h; cases h)
  | _ => rfl
/-- t = x, by its value -/
theorem asg_red {K : PySem.W.Frag} {k : Nat} {t : Tg} {x : Ex} {D' : Ends} {σ : L2.St} {H : Hp} (w : RS K T F k (.asg t x) D' σ H) :
    RE K T F k x σ H fun v H2 => RG K F t v σ H2 D'.nx := by
  obtain ⟨Xi, rho, σm, h0, fl, σm', h', rel, ev, q⟩ := w
  obtain ⟨d, h1, e1, ev⟩ := bnd_inv ev
  obtain ⟨σ1, e2, ev⟩ := opt_inv ev
  cases ev
  exact ⟨Xi, rho, σm, h0, d, _, rel, e1, fun v H2 rho2 s2 rl rv => ⟨Xi, rho2, σm, _, d, _, rel.on s2 rl, rv, e2, fun σ' r _ => q _ _ _ s2 r⟩⟩
theorem sst_asg (t : Tg) (x : Ex) : SndS T F (.asg t x) := by
  refine SndS.of (fun k X st C as hp h => ?_) fun _ _ _ => by unfold chkB; rfl
  unfold chkS at h
  split at h
  · rename_i tg v pos
    unfold chkA at h
    simp only [Bool.and_eq_true] at h
    obtain ⟨⟨h1, h2⟩, h3⟩ := h
    have hk := fn_kind h1
    have pe := (snd_all T F x).1.pe k X v C h2
    split at h3
    · cases h3
    · rename_i sw
      have hw := swapF_ok hk sw
      simp only [Bool.and_eq_true, Bool.or_eq_true, Bool.not_eq_true'] at h3
      obtain ⟨h4, h5⟩ := h3
      have pg := (pg_both (F := F) C.calm C.nd as t).1 _ h4
      rcases h5 with h5 | h5
      · exact PS.to (ps_asg pe pg (not_comp h5) hw (ea_one (chkT_star h4))) fun D' σ H w => asg_red w
      · split at h5
        · rename_i i
          split at h5
          · rename_i y py
            split at h5
            · rename_i elt tg2 iter ifs scope cpos
              simp only [Bool.and_eq_true, Bool.not_eq_true'] at h5
              obtain ⟨⟨⟨h6, h7⟩, h8⟩, h9⟩ := h5
              obtain ⟨n1, n2⟩ := plain_at h6
              split at h9
              · rename_i m own t2 it c e
                have P := lc_parts (snd_all T F it).1 (snd_all T F c).1 (snd_all T F e).1 C h2
                refine PS.to (ps_setLc (own := own.map fun i => (X.N.getD i "", i)) C.calm C.nd n1 n2 (sw_true hk n2 h7 h8) P.pi P.ok P.hg P.ht P.he P.hs) fun D' σ H w => ?_
                rw [P.ow]
                refine lc_red (m := m) P.otg ?_
                have w2 := asg_red w
                obtain ⟨Xi, rho, σm, h0, d, h', rel, ev, q⟩ := w2
                refine ⟨Xi, rho, σm, h0, d, h', rel, ev, fun v H2 rho2 s2 rl rv => ?_⟩
                obtain ⟨Xi2, rho3, σm3, h3, d3, σm4, rel3, rv3, ea, q3⟩ := q v H2 rho2 s2 rl rv
                cases ea
                exact q3 _ (rel3.set i rv3) fun vs hv => wipe_set (by simpa [tgIn] using hv)
              · cases h9
            · cases h5
          · cases h5
        · cases h5
    · rename_i names sw
      have hw := swapF_ok hk sw
      split at h3
      · rename_i es
        split at h3
        · rename_i i j
          split at h3
          · rename_i a pa b pb kt pt
            split at h3
            · rename_i u w k2 pt2
              simp only [Bool.and_eq_true, decide_eq_true_eq] at h3
              obtain ⟨⟨⟨⟨rfl, g1⟩, g2⟩, g3⟩, g4⟩ := h3
              obtain ⟨a1, a2⟩ := plain_at g1
              obtain ⟨b1, b2⟩ := plain_at g2
              refine PS.to (ps_par C.calm C.nd a1 b1 g3 a2 b2 ((snd_all T F es).1.pa k X _ C g4) hw rfl) fun D' σ H w => ?_
              obtain ⟨Xi, rho, σm, h0, fl, σm', h', rel, ev, q⟩ := w
              obtain ⟨d, hh1, e1, ev⟩ := bnd_inv ev
              obtain ⟨σ1, e2, ev⟩ := opt_inv ev
              cases ev
              obtain ⟨y, hh2, e3, ev3⟩ := bnd_inv e1
              cases y with
              | tup l =>
                obtain ⟨_, ev3⟩ := grd_inv ev3
                cases ev3
                obtain ⟨d1, d2, rfl, rfl⟩ := asg_tup2 e2
                refine ⟨Xi, rho, σm, h0, _, _, rel, e3, fun vs H2 rho2 s2 rl rr => ?_⟩
                obtain ⟨v1, t1, rfl, r1, r2⟩ := rr.cons_inv
                obtain ⟨v2, t2, rfl, r3, r4⟩ := r2.cons_inv
                obtain rfl := r4.nil_inv
                exact ⟨v1, v2, rfl, q _ _ _ s2 (((rel.on s2 rl).set i r1).set j r3)⟩
              | _ => cases ev3
            · cases h3
          · cases h3
        · rename_i i j l
          split at h3
          · rename_i a pa b pb c pc kt pt
            split at h3
            · rename_i u w z k2 pt2
              simp only [Bool.and_eq_true, decide_eq_true_eq] at h3
              obtain ⟨⟨⟨⟨⟨⟨⟨rfl, g1⟩, g2⟩, g3⟩, g4⟩, g5⟩, g6⟩, g7⟩ := h3
              obtain ⟨a1, a2⟩ := plain_at g1
              obtain ⟨b1, b2⟩ := plain_at g2
              obtain ⟨c1, c2⟩ := plain_at g3
              refine PS.to (ps_par3 C.calm C.nd a1 b1 c1 g4 g5 g6 a2 b2 c2 ((snd_all T F es).1.pa k X _ C g7) hw rfl) fun D' σ H w => ?_
              obtain ⟨Xi, rho, σm, h0, fl, σm', h', rel, ev, q⟩ := w
              obtain ⟨d, hh1, e1, ev⟩ := bnd_inv ev
              obtain ⟨σ1, e2, ev⟩ := opt_inv ev
              cases ev
              obtain ⟨y, hh2, e3, ev3⟩ := bnd_inv e1
              cases y with
              | tup q0 =>
                obtain ⟨_, ev3⟩ := grd_inv ev3
                cases ev3
                obtain ⟨d1, d2, d3, rfl, rfl⟩ := asg_tup3 e2
                refine ⟨Xi, rho, σm, h0, _, _, rel, e3, fun vs H2 rho2 s2 rl rr => ?_⟩
                obtain ⟨v1, t1, rfl, r1, r2⟩ := rr.cons_inv
                obtain ⟨v2, t2, rfl, r3, r4⟩ := r2.cons_inv
                obtain ⟨v3, t3, rfl, r5, r6⟩ := r4.cons_inv
                obtain rfl := r6.nil_inv
                exact ⟨v1, v2, v3, rfl, q _ _ _ s2 ((((rel.on s2 rl).set i r1).set j r3).set l r5)⟩
              | _ => cases ev3
            · cases h3
          · cases h3
        · cases h3
      · cases h3
  · cases h
/-! ### o[i] = v -/
theorem okRs_set (n : Nat) : ∀ (l : List D) (j : Nat) (d : D), D.okRs n l = true → d.okR n = true → D.okRs n (l.set j d) = true
  | [], _, _, _, _ => rfl
  | x :: l, 0, d, h, hd => by
    have h' : (D.okR n x && D.okRs n l) = true := h
    rw [Bool.and_eq_true] at h'
    show (D.okR n d && D.okRs n l) = true
    rw [hd, h'.2]; rfl
  | x :: l, j + 1, d, h, hd => by
    have h' : (D.okR n x && D.okRs n l) = true := h
    rw [Bool.and_eq_true] at h'
    show (D.okR n x && D.okRs n (l.set j d)) = true
    rw [h'.1, okRs_set n l j d h'.2 hd]; rfl
theorem okRs_setD {κ : Type} [DecidableEq κ] (n : Nat) (x : κ) (d : D) (hd : d.okR n = true) : ∀ (ks : List κ) (l : List D), D.okRs n l = true → D.okRs n (setD ks l x d) = true
  | [], _, h => by unfold setD; exact h
  | _ :: _, [], h => by unfold setD; exact h
  | k :: ks, v :: l, h => by
    have h' : (D.okR n v && D.okRs n l) = true := h
    rw [Bool.and_eq_true] at h'
    unfold setD
    split
    · show (D.okR n d && D.okRs n (setD ks l x d)) = true
      rw [hd, okRs_setD n x d hd ks l h'.2]; rfl
    · show (D.okR n v && D.okRs n (setD ks l x d)) = true
      rw [h'.1, okRs_setD n x d hd ks l h'.2]; rfl
theorem okRs_putVs {κ : Type} [DecidableEq κ] (n : Nat) (x : κ) (d : D) (hd : d.okR n = true) (ks : List κ) (l : List D) (h : D.okRs n l = true) : D.okRs n (putVs ks l x d) = true := by
  unfold putVs
  split
  · exact okRs_setD n x d hd ks l h
  · rw [okRs_append, h]
    show (true && (D.okR n d && true)) = true
    rw [hd]; rfl
theorem putD_ok {o k d o' : D} {n : Nat} (e : putD o k d = some o') (h1 : o.okR n = true) (h2 : d.okR n = true) : o'.okR n = true := by
  cases o with
  | lst l =>
    cases k with
    | int i =>
      obtain ⟨j, _, rfl⟩ := Option.map_eq_some_iff.mp (show (ixN l.length i).map (fun j => D.lst (l.set j d)) = some o' from e)
      unfold D.okR at h1 ⊢
      exact okRs_set n l j d h1 h2
    | _ => cases e
  | dK ks l =>
    have e' : (if ks.length < szL then (keyD k).map fun x => D.dK (putKs ks x) (putVs ks l x d) else none) = some o' := e
    split at e'
    · obtain ⟨z, e1, rfl⟩ := Option.map_eq_some_iff.mp e'
      unfold D.okR at h1 ⊢
      exact okRs_putVs n z d h2 ks l h1
    · cases e'
  | dT ks l =>
    have e' : (if ks.length < szL then (tkeyD k).map fun x => D.dT (putKs ks x) (putVs ks l x d) else none) = some o' := e
    split at e'
    · obtain ⟨z, e1, rfl⟩ := Option.map_eq_some_iff.mp e'
      unfold D.okR at h1 ⊢
      exact okRs_putVs n z d h2 ks l h1
    · cases e'
  | _ => cases e
def rPut : TSet := fun o i v H Q => rSetL o i v H Q ∨ rSetD o i v H Q
theorem set_put {X : Cx} (hu : X.A.units + 1 < cLine) : PSet X rPut := by
  intro pins s σ H o i v ov iv u Q I ro ri rv h
  rcases h with h | h
  · exact set_list pins s σ H o i v ov iv u Q I ro ri rv h
  · exact set_dict hu pins s σ H o i v ov iv u Q I ro ri rv h
theorem Reps.set' {K : PySem.W.Frag} {F : Nat → Option Addr} {Xi : List Addr} {rho : Adrs} {H : Hp} {d : D} {v : V} (rv : Rep K F Xi rho H d v) : ∀ {l : List D} {vs : List V} (j : Nat), Reps K F Xi rho H l vs → Reps K F Xi rho H (l.set j d) (vs.set j v)
  | [], vs, j, p => by rw [p.nil_inv]; exact Reps.nil'
  | x :: l, vs, 0, p => by
    obtain ⟨v', t, rfl, p1, p2⟩ := p.cons_inv
    exact Reps.cons' rv p2
  | x :: l, vs, j + 1, p => by
    obtain ⟨v', t, rfl, p1, p2⟩ := p.cons_inv
    exact Reps.cons' p1 (Reps.set' rv j p2)
theorem sst_put (o i e : Ex) : SndS T F (.put o i e) := by
  refine SndS.of (fun k X st C as hp h => ?_) fun _ _ _ => by unfold chkB; rfl
  unfold chkS at h
  split at h
  · rename_i a b spos v pos
    simp only [Bool.and_eq_true] at h
    obtain ⟨⟨⟨h1, h2⟩, h3⟩, h4⟩ := h
    have pa := (snd_all T F o).1.pe k X a C h2
    have pb := (snd_all T F i).1.pe k X b C h3
    have pv := (snd_all T F e).1.pe k X v C h4
    have hs : swapsWithSole [.Subscript a b spos] v pos.line X.env = pure false := by cases v <;> rfl
    have hw : swappedStores [.Subscript a b spos] v X.env = pure none := by cases v <;> rfl
    have ha : ∀ u, assign (.Subscript a b spos) X.env u = (do
      let ov ← holding [u] (eval a X.env)
      let iv ← holding [u, ov] (eval b X.env)
      standAt spos
      holding [u, ov, iv] (setItem ov iv u)
      release [u, ov, iv] []) := by
      intro u
      cases b <;> first | rfl | cases h1
    refine PS.to (ps_asg pv (pg_sub pa pb (set_put (by have := C.un; omega)) ha) hs hw rfl) fun D' σ H w => ?_
    obtain ⟨Xi, rho, σm, h0, fl, σm', h', rel, ev, q⟩ := w
    obtain ⟨d, hh1, e1, ev⟩ := bnd_inv ev
    obtain ⟨x, hh2, e2, ev⟩ := bnd_inv ev
    obtain ⟨y, hh3, e3, ev⟩ := bnd_inv ev
    cases x with
    | ref j =>
      obtain ⟨w, ew, ev⟩ := opt_inv ev
      obtain ⟨w1, ew1, ev⟩ := opt_inv ev
      obtain ⟨g1, ev⟩ := grd_inv ev
      cases ev
      refine re1 rel e1 fun v1 H1 rho1 s1 r1 rv1 => re1 r1 e2 fun v2 H2 rho2 s2 r2 rv2 => re1 r2 e3 fun v3 H3 rho3 s3 r3 rv3 => ?_
      have rd := Rep.mo (s2.trans s3).mo _ _ rv1
      have rj := Rep.mo s3.mo _ _ rv2
      have obj : isObj w = true := by
        cases w with
        | lst _ => rfl
        | dK _ _ => rfl
        | dT _ _ => rfl
        | _ => cases ew1
      obtain ⟨p, ho, rfl, er, hp', c⟩ := r3.rl.thing ew obj rj
      have okw : w.okR j = true := by
        rcases r3.rl.obj j _ ew with ⟨z, _⟩ | ⟨b, hb, _, _, _, z⟩
        · subst z; cases obj
        · exact z
      have ok1 := putD_ok ew1 okw g1
      have fin : ∀ ho', Cont X.K F Xi rho3 H3 w1 ho' → D'.nx σ (upd H3 p ho') := fun ho' c' => by
        refine put_obj (Q := fun _ H' => D'.nx σ H') (r := .non) (w := .non) r3.rl ew er c' ok1 (by unfold Rep; rfl) fun v' H' rho' sp rl' _ => ?_
        exact q σ H' rho' (((s1.trans s2).trans s3).trans sp) (r3.on sp rl')
      have rxk := r3.rl.rx rv3
      cases w with
      | lst l =>
        obtain ⟨vs, rfl, rr⟩ := c
        generalize deref hh3 y = dy at ew1 rxk
        cases dy with
        | int i =>
          obtain ⟨jj, ej, rfl⟩ := Option.map_eq_some_iff.mp (show (ixN l.length i).map (fun j => D.lst (l.set j d)) = some w1 from ew1)
          have hv3 : v3 = .int i := (rxk.rep rfl).eint
          exact .inl ⟨p, vs, i, jj, rfl, hv3, hp', by rw [rr.length]; exact ej, fin _ (Cont.l (Reps.set' rd jj rr))⟩
        | _ => cases ew1
      | dK ks l =>
        obtain ⟨ho', dp, c', _⟩ := putKD_spec (show putKD (.dK ks l) _ _ = _ from ew1) hp' c rxk rd
        exact .inr ⟨p, _, rfl, dp, fin _ c'⟩
      | dT ks l =>
        obtain ⟨ho', dp, c', _⟩ := putKD_spec (show putKD (.dT ks l) _ _ = _ from ew1) hp' c rxk rd
        exact .inr ⟨p, _, rfl, dp, fin _ c'⟩
      | _ => cases obj
    | _ => cases ev
  · cases h
/-- one store, what follows -/
theorem put_core {X : Cx} {k : Nat} {o i : Ex} {Xi : List Addr} {rho : Adrs} {σm : Env} {σ : L2.St} {h1 h2 h3 : MH} {H1 : Hp} {d x y : D} {v : V} {kk : MH → R ((Fl × Env) × MH)} {z : (Fl × Env) × MH} {Q : L2.St → Hp → Prop} (r1 : Rel X.K F Xi rho σm h1 σ H1)
    (rv1 : Rep X.K F Xi rho H1 d v) (e2 : ev (CF T k) o σm h1 = .ok (x, h2)) (e3 : ev (CF T k) i σm h2 = .ok (y, h3)) (ep : putR x y d h3 kk = .ok z)
    (fin : ∀ h4 H4 rho4, kk h4 = .ok z → Sp rho H1 rho4 H4 → Rel X.K F Xi rho4 σm h4 σ H4 → Q σ H4) : gSub (RE X.K T F k o) (RE X.K T F k i) rPut v σ H1 Q := by
  cases x with
  | ref j =>
    obtain ⟨w, ew, ep⟩ := opt_inv (show opt h3[j]? (fun w => opt (putD w (deref h3 y) d) fun w1 => grd (d.okR j) (kk (h3.set j w1))) = .ok z from ep)
    obtain ⟨w1, ew1, ep⟩ := opt_inv ep
    obtain ⟨g1, ep⟩ := grd_inv ep
    refine re1 r1 e2 fun v2 H2 rho2 s2 r2 rv2 => re1 r2 e3 fun v3 H3 rho3 s3 r3 rv3 => ?_
    have rd := Rep.mo (s2.trans s3).mo _ _ rv1
    have rj := Rep.mo s3.mo _ _ rv2
    have obj : isObj w = true := by
      cases w with
      | lst _ => rfl
      | dK _ _ => rfl
      | dT _ _ => rfl
      | _ => cases ew1
    obtain ⟨p, ho, rfl, er, hp', c⟩ := r3.rl.thing ew obj rj
    have okw : w.okR j = true := by
      rcases r3.rl.obj j _ ew with ⟨z, _⟩ | ⟨b, hb, _, _, _, z⟩
      · subst z; cases obj
      · exact z
    have ok1 := putD_ok ew1 okw g1
    have fin' : ∀ ho', Cont X.K F Xi rho3 H3 w1 ho' → Q σ (upd H3 p ho') := fun ho' c' => by
      refine put_obj (Q := fun _ H' => Q σ H') (r := .non) (w := .non) r3.rl ew er c' ok1 (by unfold Rep; rfl) fun v' H' rho' sp rl' _ => ?_
      exact fin _ H' rho' ep ((s2.trans s3).trans sp) (r3.on sp rl')
    have rxk := r3.rl.rx rv3
    cases w with
    | lst l =>
      obtain ⟨vs, rfl, rr⟩ := c
      generalize deref h3 y = dy at ew1 rxk
      cases dy with
      | int i =>
        obtain ⟨jj, ej, rfl⟩ := Option.map_eq_some_iff.mp (show (ixN l.length i).map (fun j => D.lst (l.set j d)) = some w1 from ew1)
        have hv3 : v3 = .int i := (rxk.rep rfl).eint
        exact .inl ⟨p, vs, i, jj, rfl, hv3, hp', by rw [rr.length]; exact ej, fin' _ (Cont.l (Reps.set' rd jj rr))⟩
      | _ => cases ew1
    | dK ks l =>
      obtain ⟨ho', dp, c', _⟩ := putKD_spec (show putKD (.dK ks l) _ _ = _ from ew1) hp' c rxk rd
      exact .inr ⟨p, _, rfl, dp, fin' _ c'⟩
    | dT ks l =>
      obtain ⟨ho', dp, c', _⟩ := putKD_spec (show putKD (.dT ks l) _ _ = _ from ew1) hp' c rxk rd
      exact .inr ⟨p, _, rfl, dp, fin' _ c'⟩
    | _ => cases obj
  | _ => cases ep
theorem sub_ha {X : Cx} {a b : Expr} {spos : Pos} (h1 : noSlice b = true) : ∀ u, assign (.Subscript a b spos) X.env u = (do
      let ov ← holding [u] (eval a X.env)
      let iv ← holding [u, ov] (eval b X.env)
      standAt spos
      holding [u, ov, iv] (setItem ov iv u)
      release [u, ov, iv] []) := by
  intro u
  cases b <;> first | rfl | cases h1
theorem sst_put2 (o i p j e : Ex) : SndS T F (.put2 o i p j e) := by
  refine SndS.of (fun k X st C as hp h => ?_) fun _ _ _ => by unfold chkB; rfl
  unfold chkS at h
  split at h
  · rename_i a b p1 c d p2 kt pt v pos
    simp only [Bool.and_eq_true, decide_eq_true_eq, Bool.not_eq_true'] at h
    obtain ⟨⟨⟨⟨⟨⟨⟨⟨⟨g1, g2⟩, g3⟩, g4⟩, g5⟩, g6⟩, g7⟩, g8⟩, g9⟩, g10⟩ := h
    have hk := fn_kind g1
    have hw := swapF_ok hk g5
    have pu := set_put (X := X) (by have := C.un; omega)
    have pg1 := pg_sub (pos := p1) ((snd_all T F o).1.pe k X a C g6) ((snd_all T F i).1.pe k X b C g7) pu (sub_ha g3)
    have pg2 := pg_sub (pos := p2) ((snd_all T F p).1.pe k X c C g8) ((snd_all T F j).1.pe k X d C g9) pu (sub_ha g4)
    refine PS.to (ps_asg ((snd_all T F e).1.pe k X v C g10) (pg_tup C.calm (pgs_cons pg1 (pgs_cons pg2 pgs_nil rfl) rfl) rfl rfl) (by cases v <;> first | rfl | cases g2) hw rfl) fun D' σ H w => ?_
    obtain ⟨Xi, rho, σm, h0, fl, σm', h', rel, ev, q⟩ := w
    obtain ⟨y, hh1, e1, ev⟩ := bnd_inv ev
    have tw : ∃ d1 d2, y = .tup [d1, d2] := by
      cases y with
      | tup l =>
        match l, ev with
        | [d1, d2], _ => exact ⟨d1, d2, rfl⟩
      | _ => cases ev
    obtain ⟨d1, d2, rfl⟩ := tw
    have ev : (bnd (Mi.ev (CF T k) o σm hh1) fun x h2 => bnd (Mi.ev (CF T k) i σm h2) fun y h3 => putR x y d1 h3 fun h4 =>
        bnd (Mi.ev (CF T k) p σm h4) fun x h5 => bnd (Mi.ev (CF T k) j σm h5) fun y h6 => putR x y d2 h6 fun h7 => .ok ((.nx, σm), h7)) = .ok ((fl, σm'), h') := ev
    obtain ⟨x1, hh2, e2, ev⟩ := bnd_inv ev
    obtain ⟨y1, hh3, e3, ev⟩ := bnd_inv ev
    refine re1 rel e1 fun v0 H1 rho1 s1 r1 rv0 => ?_
    obtain ⟨t, vs, rfl, ht, rr⟩ := rv0.etup
    obtain ⟨v1, t1, rfl, rv1, rr⟩ := rr.cons_inv
    obtain ⟨v2, t2, rfl, rv2, rr⟩ := rr.cons_inv
    obtain rfl := rr.nil_inv
    refine ⟨t, _, rfl, .inl (.inl ht), rfl, v1, [v2], rfl, put_core r1 rv1 e2 e3 ev fun h4 H4 rho4 ek s4 r4 => ?_⟩
    obtain ⟨x2, hh5, e5, ek⟩ := bnd_inv ek
    obtain ⟨y2, hh6, e6, ek⟩ := bnd_inv ek
    refine ⟨v2, [], rfl, put_core r4 (Rep.mo s4.mo _ _ rv2) e5 e6 ek fun h7 H7 rho7 ek7 s7 r7 => ?_⟩
    cases ek7
    exact ⟨rfl, q _ _ _ ((s1.trans s4).trans s7) r7⟩
  · cases h
/-- every statement is sound -/
theorem sst_all (T : Tab) (F : Nat → Option Addr) : ∀ x : St, SndS T F x := by
  intro x
  induction x with
  | nil => exact sst_nil
  | cons a b A B => exact sst_cons A B
  | pass => exact sst_pass
  | asg t e => exact sst_asg t e
  | put o i e => exact sst_put o i e
  | put2 o i p j e => exact sst_put2 o i p j e
  | expr e => exact sst_expr e
  | ret e => exact sst_ret e
  | ret0 => exact sst_ret0
  | ite c a b A B => exact sst_ite c A B
  | forr t it b B => exact sst_forr t it B
  | whil c b B => exact sst_whil c B
  | brk => exact sst_brk
  | cnt => exact sst_cnt
  | stuck => exact sst_stuck
end
end Mi
/-! Mi over the layer: defs keep what they promise. -/
namespace Mi
open PySem PySem.Spec PyProof.Rows L2

section
variable {K : PySem.W.Frag} {F : Nat → Option Addr} {Xi : List Addr} {rho rho' : Adrs} {H H' : Hp} {h h' : MH}
/-- what tells of refs below n alone stands where these stand alike -/
theorem rep_cut {n : Nat} (e : ∀ i : Nat, i < n → rho'[i]? = rho[i]?) (m : ∀ a, some a ∈ rho' → some a ∈ rho) :
    (∀ (d : D) (v : V), d.okR n = true → Rep K F Xi rho H d v → Rep K F Xi rho' H d v) ∧ (∀ (l : List D) (vs : List V), D.okRs n l = true → Reps K F Xi rho H l vs → Reps K F Xi rho' H l vs) := by
  have key : ∀ d : D, ∀ v : V, d.okR n = true → Rep K F Xi rho H d v → Rep K F Xi rho' H d v := by
    intro d
    refine D.rec (motive_1 := fun d => ∀ v, d.okR n = true → Rep K F Xi rho H d v → Rep K F Xi rho' H d v) (motive_2 := fun l => ∀ vs, D.okRs n l = true → Reps K F Xi rho H l vs → Reps K F Xi rho' H l vs)
      ?_ ?_ ?_ ?_ ?_ ?_ ?_ ?_ ?_ ?_ ?_ ?_ ?_ d
    · intro v _ h; unfold Rep at h ⊢; exact h
    · intro b v _ h; unfold Rep at h ⊢; exact h
    · intro b v _ h; unfold Rep at h ⊢; exact h
    · intro b v _ h; unfold Rep at h ⊢; exact h
    · intro l ih v ok h
      unfold D.okR at ok
      unfold Rep at h ⊢
      obtain ⟨a, vs, e, h, n, x, r⟩ := h
      exact ⟨a, vs, e, h, fun q => n (m _ q), x, ih vs ok r⟩
    · intro l ih v ok h
      unfold D.okR at ok
      unfold Rep at h ⊢
      obtain ⟨a, vs, e, h, n, x, r⟩ := h
      exact ⟨a, vs, e, h, fun q => n (m _ q), x, ih vs ok r⟩
    · intro ks l ih v ok h
      unfold D.okR at ok
      unfold Rep at h ⊢
      obtain ⟨a, vs, e, h, n, x, le, r⟩ := h
      exact ⟨a, vs, e, h, fun q => n (m _ q), x, le, ih vs ok r⟩
    · intro ks l ih v ok h
      unfold D.okR at ok
      unfold Rep at h ⊢
      obtain ⟨a, vs, e, h, n, x, le, r⟩ := h
      exact ⟨a, vs, e, h, fun q => n (m _ q), x, le, ih vs ok r⟩
    · intro i v ok h
      unfold D.okR at ok
      unfold Rep at h ⊢
      obtain ⟨a, ev, h⟩ := h
      exact ⟨a, ev, by rw [e i (of_decide_eq_true ok)]; exact h⟩
    · intro b v _ h; unfold Rep at h ⊢; exact h
    · intro l ih v ok h
      unfold D.okR at ok
      unfold Rep at h ⊢
      obtain ⟨a, vs, e, h, r⟩ := h
      refine ⟨a, vs, e, ?_, ih vs ok r⟩
      rcases h with ⟨h, n, x⟩ | h
      · exact .inl ⟨h, fun q => n (m _ q), x⟩
      · exact .inr h
    · intro vs _ h; unfold Reps at h ⊢; exact h
    · intro d l ih1 ih2 vs ok h
      have ok' : (D.okR n d && D.okRs n l) = true := ok
      rw [Bool.and_eq_true] at ok'
      unfold Reps at h ⊢
      obtain ⟨v, q, e, h1, h2⟩ := h
      exact ⟨v, q, e, ih1 v ok'.1 h1, ih2 q ok'.2 h2⟩
  refine ⟨key, fun l => ?_⟩
  induction l with
  | nil => intro vs _ h; unfold Reps at h ⊢; exact h
  | cons d l ih =>
    intro vs ok h
    have ok' : (D.okR n d && D.okRs n l) = true := ok
    rw [Bool.and_eq_true] at ok'
    obtain ⟨v, q, rfl, h1, h2⟩ := h.cons_inv
    exact Reps.cons' (key d v ok'.1 h1) (ih q ok'.2 h2)
theorem cont_cut {n : Nat} (e : ∀ i : Nat, i < n → rho'[i]? = rho[i]?) (m : ∀ a, some a ∈ rho' → some a ∈ rho) {d : D} {o : HO} (ok : d.okR n = true) (c : Cont K F Xi rho H d o) : Cont K F Xi rho' H d o := by
  have rc := (rep_cut (K := K) (F := F) (Xi := Xi) (H := H) e m).2
  cases d with
  | lst l => obtain ⟨vs, e, r⟩ := c; exact ⟨vs, e, rc _ _ ok r⟩
  | dK ks l => obtain ⟨vs, e, le, r⟩ := c; exact ⟨vs, e, le, rc _ _ ok r⟩
  | dT ks l => obtain ⟨vs, e, le, r⟩ := c; exact ⟨vs, e, le, rc _ _ ok r⟩
  | _ => exact c.elim
mutual
theorem okR_mono {m n : Nat} (hmn : m ≤ n) : ∀ d : D, d.okR m = true → d.okR n = true
  | .non, _ => rfl
  | .bl _, _ => rfl
  | .int _, _ => rfl
  | .str _, _ => rfl
  | .fn _, _ => rfl
  | .ref i, h => by unfold D.okR at h ⊢; exact decide_eq_true (Nat.lt_of_lt_of_le (of_decide_eq_true h) hmn)
  | .tup l, h => by unfold D.okR at h ⊢; exact okRs_mono hmn l h
  | .lst l, h => by unfold D.okR at h ⊢; exact okRs_mono hmn l h
  | .scr l, h => by unfold D.okR at h ⊢; exact okRs_mono hmn l h
  | .dK _ l, h => by unfold D.okR at h ⊢; exact okRs_mono hmn l h
  | .dT _ l, h => by unfold D.okR at h ⊢; exact okRs_mono hmn l h
theorem okRs_mono {m n : Nat} (hmn : m ≤ n) : ∀ l : List D, D.okRs m l = true → D.okRs n l = true
  | [], _ => rfl
  | d :: l, h => by
    have h' : (D.okR m d && D.okRs m l) = true := h
    rw [Bool.and_eq_true] at h'
    show (D.okR n d && D.okRs n l) = true
    rw [okR_mono hmn d h'.1, okRs_mono hmn l h'.2]; rfl
end
theorem take_get {α : Type} {l : List α} {n i : Nat} (h : i < n) : (l.take n)[i]? = l[i]? := by rw [List.getElem?_take]; simp [h]
theorem mem_take' {α : Type} {l : List α} {n : Nat} {a : α} (h : a ∈ l.take n) : a ∈ l := List.mem_of_mem_take h
/-- the heap, cut to what the caller has -/
theorem Rl.cut (rl : Rl K F Xi rho h H) {n : Nat} (hn : n ≤ rho.length) : Rl K F Xi (rho.take n) (h.take n) H := by
  refine ⟨by rw [List.length_take, List.length_take, rl.len], fun i j a hi hj => ?_, fun a ha => ⟨(rl.xi a ha).1, fun q => (rl.xi a ha).2 (mem_take' q)⟩, fun i o e => ?_⟩
  · have h1 : i < n := by have := (List.getElem?_eq_some_iff.mp hi).1; rw [List.length_take] at this; omega
    have h2 : j < n := by have := (List.getElem?_eq_some_iff.mp hj).1; rw [List.length_take] at this; omega
    rw [take_get h1] at hi
    rw [take_get h2] at hj
    exact rl.inj i j a hi hj
  · have h1 : i < n := by have := (List.getElem?_eq_some_iff.mp e).1; rw [List.length_take] at this; omega
    rw [take_get h1] at e
    rcases rl.obj i o e with ⟨q1, q2⟩ | ⟨a, ho, e1, e2, c, z⟩
    · exact .inl ⟨q1, by rw [take_get h1]; exact q2⟩
    · exact .inr ⟨a, ho, by rw [take_get h1]; exact e1, e2, cont_cut (n := n) (fun i hi => take_get hi) (fun _ q => mem_take' q) (okR_mono (Nat.le_of_lt h1) _ z) c, z⟩
theorem Sp.cut (s : Sp rho H rho' H') : Sp rho H (rho'.take rho.length) H' := by
  refine ⟨s.keep, by rw [List.length_take]; have := s.len; omega, fun i hi => ?_, fun a q => s.new a (mem_take' q)⟩
  rw [take_get hi]
  exact s.pre i hi
/-- what stands at a ref that is let go -/
theorem ref_obj {n i : Nat} {o : D} {v : V} (rl : Rl K F Xi rho h H) (hi : ¬ i < n) (e : h[i]? = some o) (ok : o.okR n = true) (io : isObj o = true) (r : Rep K F Xi rho H (.ref i) v) :
    Rep K F Xi (rho.take n) H o v := by
  obtain ⟨a, ho, rfl, er, ha, c⟩ := rl.thing e io r
  refine Rep.ofCont (cont_cut (n := n) (fun i hi => take_get hi) (fun _ q => mem_take' q) ok c) ha (fun q => ?_) (fun q => (rl.xi a q).2 (List.mem_of_getElem? er))
  obtain ⟨j, hj⟩ := List.mem_iff_getElem?.mp q
  have h2 : j < n := by have := (List.getElem?_eq_some_iff.mp hj).1; rw [List.length_take] at this; omega
  rw [take_get h2] at hj
  have := rl.inj i j a er hj
  omega
theorem frz_spec {n : Nat} (rl : Rl K F Xi rho h H) :
    (∀ (d d' : D) (v : V), frzD h n d = some d' → Rep K F Xi rho H d v → Rep K F Xi (rho.take n) H d' v) := by
  intro d
  refine D.rec (motive_1 := fun d => ∀ d' v, frzD h n d = some d' → Rep K F Xi rho H d v → Rep K F Xi (rho.take n) H d' v) (motive_2 := fun l => ∀ l' vs, frzDs h n l = some l' → Reps K F Xi rho H l vs → Reps K F Xi (rho.take n) H l' vs ∧ l'.length = l.length)
    ?_ ?_ ?_ ?_ ?_ ?_ ?_ ?_ ?_ ?_ ?_ ?_ ?_ d
  · intro d' v e h; unfold frzD at e; cases e; unfold Rep at h ⊢; exact h
  · intro b d' v e h; unfold frzD at e; cases e; unfold Rep at h ⊢; exact h
  · intro b d' v e h; unfold frzD at e; cases e; unfold Rep at h ⊢; exact h
  · intro b d' v e h; unfold frzD at e; cases e; unfold Rep at h ⊢; exact h
  · intro l ih d' v e h
    unfold frzD at e
    obtain ⟨l', e', rfl⟩ := Option.map_eq_some_iff.mp e
    unfold Rep at h ⊢
    obtain ⟨a, vs, e, h, nn, x, r⟩ := h
    exact ⟨a, vs, e, h, fun q => nn (mem_take' q), x, (ih l' vs e' r).1⟩
  · intro l ih d' v e h
    unfold frzD at e
    obtain ⟨l', e', rfl⟩ := Option.map_eq_some_iff.mp e
    unfold Rep at h ⊢
    obtain ⟨a, vs, e, h, nn, x, r⟩ := h
    exact ⟨a, vs, e, h, fun q => nn (mem_take' q), x, (ih l' vs e' r).1⟩
  · intro ks l ih d' v e h
    unfold frzD at e
    obtain ⟨l', e', rfl⟩ := Option.map_eq_some_iff.mp e
    unfold Rep at h ⊢
    obtain ⟨a, vs, e, h, nn, x, le, r⟩ := h
    exact ⟨a, vs, e, h, fun q => nn (mem_take' q), x, le, (ih l' vs e' r).1⟩
  · intro ks l ih d' v e h
    unfold frzD at e
    obtain ⟨l', e', rfl⟩ := Option.map_eq_some_iff.mp e
    unfold Rep at h ⊢
    obtain ⟨a, vs, e, h, nn, x, le, r⟩ := h
    exact ⟨a, vs, e, h, fun q => nn (mem_take' q), x, le, (ih l' vs e' r).1⟩
  · intro i d' v e r
    unfold frzD at e
    split at e
    · rename_i hi
      cases e
      exact (rep_cut (n := n) (fun i hi => take_get hi) (fun _ q => mem_take' q)).1 _ _ (by unfold D.okR; exact decide_eq_true hi) r
    · rename_i hi
      split at e
      · rename_i o eo
        split at e
        · rename_i ok
          rw [Bool.and_eq_true] at ok
          cases e
          exact ref_obj rl hi eo ok.1 ok.2 r
        · cases e
      · cases e
  · intro b d' v e h; unfold frzD at e; cases e; unfold Rep at h ⊢; exact h
  · intro l ih d' v e h
    unfold frzD at e
    obtain ⟨l', e', rfl⟩ := Option.map_eq_some_iff.mp e
    unfold Rep at h ⊢
    obtain ⟨a, vs, e, h, r⟩ := h
    refine ⟨a, vs, e, ?_, (ih l' vs e' r).1⟩
    rcases h with ⟨h, nn, x⟩ | h
    · exact .inl ⟨h, fun q => nn (mem_take' q), x⟩
    · exact .inr h
  · intro l' vs e h
    unfold frzDs at e; cases e
    rw [h.nil_inv]
    exact ⟨Reps.nil', rfl⟩
  · intro d l ih1 ih2 l' vs e h
    unfold frzDs at e
    obtain ⟨x, e1, e⟩ := Option.bind_eq_some_iff.mp e
    obtain ⟨y, e2, rfl⟩ := Option.map_eq_some_iff.mp e
    obtain ⟨v, q, rfl, h1, h2⟩ := h.cons_inv
    obtain ⟨r, le⟩ := ih2 y q e2 h2
    exact ⟨Reps.cons' (ih1 x v e1 h1) r, by rw [List.length_cons, List.length_cons, le]⟩
/-- behind a call -/
theorem fin_spec {mv : Bool} {d0 d : D} {h1 : MH} {v : V} (e : finish mv rho.length d0 h1 = .ok (d, h')) (s : Sp rho H rho' H') (rl : Rl K F Xi rho' h1 H') (r : Rep K F Xi rho' H' d0 v) :
    ∃ rho2, Sp rho H rho2 H' ∧ Rl K F Xi rho2 h' H' ∧ Rep K F Xi rho2 H' d v := by
  have hle := s.len
  unfold finish at e
  split at e
  · rename_i ok
    cases e
    exact ⟨_, s.cut, rl.cut hle, (rep_cut (n := rho.length) (fun i hi => take_get hi) (fun _ q => mem_take' q)).1 _ _ ok r⟩
  · rename_i ok
    split at e
    · split at e
      · rename_i i
        split at e
        · rename_i o eo
          obtain ⟨g, e⟩ := grd_inv e
          rw [Bool.and_eq_true] at g
          cases e
          obtain ⟨a, ho, rfl, er, ha, c⟩ := rl.thing eo g.2 r
          have hi : ¬ i < rho.length := fun z => ok (by unfold D.okR; exact decide_eq_true z)
          have lt : (rho'.take rho.length).length = rho.length := by rw [List.length_take]; omega
          have lh : (h1.take rho.length).length = rho.length := by rw [List.length_take, ← rl.len]; omega
          have cut := rl.cut hle
          have out : some a ∉ rho'.take rho.length := fun q => by
            obtain ⟨j, hj⟩ := List.mem_iff_getElem?.mp q
            have h2 : j < rho.length := by have := (List.getElem?_eq_some_iff.mp hj).1; omega
            rw [take_get h2] at hj
            have := rl.inj i j a er hj
            omega
          have pre : ∀ j : Nat, j < rho.length → (rho'.take rho.length ++ [some a])[j]? = rho'[j]? := fun j hj => by
            rw [List.getElem?_append_left (by omega), take_get hj]
          have mem : ∀ b, some b ∈ rho'.take rho.length ++ [some a] → some b ∈ rho' := fun b q => by
            rcases List.mem_append.mp q with q | q
            · exact mem_take' q
            · have : b = a := by simpa using q
              rw [this]; exact List.mem_of_getElem? er
          have last : (rho'.take rho.length ++ [some a])[rho.length]? = some (some a) := by
            rw [List.getElem?_append_right (by omega), lt]; simp
          refine ⟨rho'.take rho.length ++ [some a], ⟨s.keep, by rw [List.length_append]; omega, fun j hj => by rw [pre j hj]; exact s.pre j hj, fun b q => s.new b (mem b q)⟩,
            ⟨by rw [List.length_append, List.length_append, lt, lh]; rfl, fun p q b hp hq => ?_, fun b hb => ⟨(rl.xi b hb).1, fun q => (rl.xi b hb).2 (mem b q)⟩, fun j o2 e2 => ?_⟩, ?_⟩
          · have cls : ∀ p : Nat, (rho'.take rho.length ++ [some a])[p]? = some (some b) → (p < rho.length ∧ rho'[p]? = some (some b)) ∨ (p = rho.length ∧ b = a) := fun p hp => by
              by_cases hl : p < rho.length
              · rw [pre p hl] at hp; exact .inl ⟨hl, hp⟩
              · have h2 := (List.getElem?_eq_some_iff.mp hp).1
                rw [List.length_append, lt] at h2
                have : p = rho.length := by simp at h2; omega
                subst this
                rw [last] at hp
                cases hp
                exact .inr ⟨rfl, rfl⟩
            have ia : ∀ p : Nat, p < rho.length → rho'[p]? = some (some a) → False := fun p hl hp => by
              have := rl.inj i p a er hp
              omega
            rcases cls p hp with ⟨p1, p2⟩ | ⟨p1, p2⟩
            · rcases cls q hq with ⟨q1, q2⟩ | ⟨q1, q2⟩
              · exact rl.inj p q b p2 q2
              · subst q2; exact (ia p p1 p2).elim
            · rcases cls q hq with ⟨q1, q2⟩ | ⟨q1, q2⟩
              · subst p2; exact (ia q q1 q2).elim
              · omega
          · by_cases hl : j < rho.length
            · rw [List.getElem?_append_left (by omega), take_get hl] at e2
              rcases rl.obj j o2 e2 with ⟨q1, q2⟩ | ⟨b, hb, e3, e4, c2, z⟩
              · exact .inl ⟨q1, by rw [pre j hl]; exact q2⟩
              · exact .inr ⟨b, hb, by rw [pre j hl]; exact e3, e4, cont_cut (n := rho.length) pre mem (okR_mono (Nat.le_of_lt hl) _ z) c2, z⟩
            · have h2 := (List.getElem?_eq_some_iff.mp e2).1
              rw [List.length_append, lh] at h2
              have : j = rho.length := by simp at h2; omega
              subst this
              rw [List.getElem?_append_right (by omega), lh] at e2
              simp at e2
              subst e2
              exact .inr ⟨a, ho, last, ha, cont_cut (n := rho.length) pre mem g.1 c, g.1⟩
          · unfold Rep
            exact ⟨a, rfl, .inl last⟩
        · cases e
      · cases e
    · obtain ⟨d', e1, e⟩ := opt_inv e
      cases e
      exact ⟨_, s.cut, rl.cut hle, frz_spec rl _ _ _ e1 r⟩
end

/-- a def of the module and its text -/
structure DefIn (T : Tab) (K : PySem.W.Frag) (f : Nat) (a : Addr) : Prop where
  kp : PySem.W.keepIn K (.ref a) = true
  ex : ∃ (x qual : Str) (st : Stmt) (fd : FuncData) (N ps : List Str) (fn : Fn), C8.Fun K x qual st a fd ∧ Binds K fd ps [] ∧ FnScope N ps (C8.fnScope st) ∧ T.P[f]? = some fn ∧ fn.ps = ps.length ∧ fn.n = N.length ∧ chkB T N (C8.fnScope st) fn.body (C8.fnBody st) = true
/-- the module -/
structure Glb (T : Tab) (F : Nat → Option Addr) (K : PySem.W.Frag) (mg : Str → Option Value) : Prop where
  nms : ∀ x f, T.names.lookup x = some f → ∃ a, F f = some a ∧ mg x = some (.ref a)
  bls : ∀ x ∈ T.blt, mg x = none
  cst : ∀ x i, T.cst.lookup x = some i → ∃ t, mg x = some (.int i t)
  gcd : T.gcd = true → mg "gcd" = some (.builtin "math.gcd")
  fns : ∀ f a, F f = some a → DefIn T K f a
section
variable {T : Tab} {F : Nat → Option Addr} {P : Program} {w : World} {K : PySem.W.Frag} {mg : Str → Option Value} {base : Heap}
theorem rel_start {Xi : List Addr} {rho : Adrs} {h : MH} {H : Hp} {ds : List D} {vs : List V} {N : List Str} {n m : Nat} (rl : Rl K F Xi rho h H) (rr : Reps K F Xi rho H ds vs) (hm : m = ds.length) (hn : n = N.length) (hle : ds.length ≤ N.length) :
    Rel K F Xi rho (ds.map some ++ List.replicate (n - m) none) h (L2.start N vs) H := by
  have hl := rr.length
  refine ⟨rl, ?_, fun i d e => ?_⟩
  · unfold L2.start
    rw [List.length_append, List.length_append, List.length_map, List.length_map, List.length_replicate, List.length_replicate]
    omega
  · have hi : i < ds.length := by
      by_cases hi : i < ds.length
      · exact hi
      · rw [List.getElem?_append_right (by simpa using hi), List.getElem?_replicate] at e
        split at e <;> cases e
    rw [List.getElem?_append_left (by simpa using hi), List.getElem?_map] at e
    cases ed : ds[i]? with
    | none => rw [ed] at e; cases e
    | some d' =>
      rw [ed] at e
      cases e
      obtain ⟨v, e1, e2⟩ := rr.get ed
      refine ⟨v, ?_, e2⟩
      unfold L2.start
      rw [List.getElem?_append_left (by rw [List.length_map]; exact (List.getElem?_eq_some_iff.mp e1).1), List.getElem?_map, e1]
      rfl
theorem asg_fn {CX : CXT} {N : List Str} {qual : Str} {scope : Scope} {f : Addr} {cd : Value} {A : Around} {outer : List PySem.Env} {s : Shared} {H : Hp} {E : XK} : Asg (cxOf CX P w K mg base N qual scope f cd A outer s H E).nox scope := by
  intro x h
  refine ⟨?_, .inl rfl⟩
  unfold locB at h
  split at h
  · rename_i e; exact .inl e
  · rename_i e; exact .inr e
  · cases h
/-- every def keeps its promise -/
theorem def_ok (G : Glb T F K mg) : ∀ (k f : Nat) (a : Addr), F f = some a → DefOk T F k P w K mg base f a := by
  intro k
  induction k with
  | zero =>
    intro f a hf
    obtain ⟨x, qual, st, fd, N, ps, fn, h1, h2, h3, h4, h5, h6, h7⟩ := (G.fns f a hf).ex
    refine ⟨(G.fns f a hf).kp, fd, ps, fn, h4, h5.symm, h2, ⟨fun A outer s H args us vs Q _ _ _ _ _ _ hs => ?_⟩⟩
    obtain ⟨_, _, _, _, _, _, _, _, e, _⟩ := hs
    cases e
  | succ k ih =>
    intro f a hf
    obtain ⟨x, qual, st, fd, N, ps, fn, h1, h2, S, h4, h5, h6, h7⟩ := (G.fns f a hf).ex
    refine ⟨(G.fns f a hf).kp, fd, ps, fn, h4, h5.symm, h2, ⟨fun A outer s H args us vs Q hr hg e0 hb r hl hs => ?_⟩⟩
    obtain ⟨oc, od, dV, kV, doc, pm, an, cdv, ct, osl, rfl, lk, hcd⟩ := h1.ex
    obtain ⟨Xi, rho, h, ds, d, h', rl, rr, ev, q⟩ := hs
    have ev : (match T.P[f]? with
      | none => (.error .stuck : R (D × MH))
      | some fn => grd (decide (ds.length = fn.ps)) (bnd (exec (callF T.P k) fn.body (ds.map some ++ List.replicate (fn.n - fn.ps) none) h) fun p h1 => match p.1 with
        | .rt d => finish fn.mv h.length d h1
        | .nx => finish fn.mv h.length .non h1
        | _ => .error .stuck)) = .ok (d, h') := ev
    rw [h4] at ev
    obtain ⟨g, ev⟩ := grd_inv ev
    have g := of_decide_eq_true g
    obtain ⟨⟨fl, σf⟩, hh1, e1, ev⟩ := bnd_inv ev
    have KX : K.In s.heap := e0.mod.kin.keeps fun b o e => (e0.bs b o e).1
    have lim : s.heap.NoLimit := e0.mod.nolimit.keeps fun b o e => (e0.bs b o e).1
    have hkind : ∀ y ∈ ps.zip us, (C8.fnScope st).names.lookup y.1 = some .local ∨ ((C8.fnScope st).names.lookup y.1 = some .cell ∧ ((cellsFrom (s.heap.objs.size + 1) (C8.fnScope st).names []).lookup y.1).isSome = true) := fun ⟨n, v⟩ hy => by
      rcases S.par n (List.of_mem_zip hy).1 with q | q
      · exact .inl q
      · exact .inr ⟨q, PySem.W.cellsFrom_some _ _ _ (.inl q)⟩
    refine codeAny_call_function hr.depth (KX _ _ lk) rfl S.co S.gen rfl (PySem.W.codeRec_of KX hcd) (hb _ _ _ _ ?_)
    refine wpAny_newFunctionEnv_cells S.kind hkind fun env he s1 x => ?_
    subst he
    refine ⟨lim.keeps x.toInCall.keep, codeAny_func ?_⟩
    have I : Inv (cxOf CX0 P w K mg base N qual (C8.fnScope st) a cdv A outer s H E0) [] (L2.start N vs) H s1 := inv_start S hr.hd e0 hl r x
    have C : Ctx T F k (cxOf CX0 P w K mg base N qual (C8.fnScope st) a cdv A outer s H E0).nox :=
      ⟨rfl, S.nd, hr.deeper _, hg, G.nms, G.bls, G.cst, G.gcd, fun f a hf => ih f a hf⟩
    have body : PSs (cxOf CX0 P w K mg base N qual (C8.fnScope st) a cdv A outer s H E0).nox (C8.fnBody st) (RS K T F k fn.body) := (sst_all T F fn.body).pb k _ _ C asg_fn PassesOwn.never h7
    have hpl : ps.length ≤ N.length := by have := congrArg List.length S.pre; rw [List.length_take] at this; omega
    have rel : Rel K F Xi rho (ds.map some ++ List.replicate (fn.n - fn.ps) none) h (L2.start N vs) H := rel_start rl rr g.symm h6 (by omega)
    have lr : rho.length = h.length := rl.len
    have hq : RS K T F k fn.body { nx := fun _ H' => Q .non H', rt := Q } (L2.start N vs) H := by
      refine ⟨Xi, rho, _, h, fl, σf, hh1, rel, e1, ?_⟩
      cases fl with
      | nx =>
        rw [← lr] at ev
        intro σ' H' rho' s' r'
        obtain ⟨rho2, s2, rl2, r2⟩ := fin_spec ev s' r'.rl (v := .non) (by unfold Rep; rfl)
        exact q _ _ _ s2 rl2 r2
      | rt d0 =>
        rw [← lr] at ev
        intro v H' rho' s' rl' r'
        obtain ⟨rho2, s2, rl2, r2⟩ := fin_spec ev s' rl' r'
        exact q _ _ _ s2 rl2 r2
      | bk => cases ev
      | ct => cases ev
    refine wpAny_mono (body.nox.run [] s1 (L2.start N vs) H _ I hq) (fun fl s' hs => ?_) fun e s' hs => hs
    have fin : ∀ {σ' : L2.St} {H' : Hp} {v : V} {u : Value}, Inv (cxOf CX0 P w K mg base N qual (C8.fnScope st) a cdv A outer s H E0) [] σ' H' s' → RelV v u → Q v H' → CE outer P w H s Q u s' :=
      fun {σ' H' v u} J rv q => ⟨v, H', J.os, J.bare, J.base, J.hok, rv, q⟩
    cases fl with
    | ret u =>
      obtain ⟨v, σ', H', J, rv, q⟩ := hs
      exact fin J rv q
    | next =>
      obtain ⟨σ', H', J, q⟩ := hs
      exact fin (v := V.non) (u := Value.none) J rfl q
    | brk =>
      obtain ⟨_, _, _, q⟩ := hs
      exact False.elim q
    | cont =>
      obtain ⟨_, _, _, q⟩ := hs
      exact False.elim q
end
end Mi
/-! Mi over the layer: what the top has written; the law's end. -/
namespace Mi
open PySem PySem.Spec PyProof.Rows L2

/-! ### what is told of the text -/
structure DefT (T : Tab) (x : Str) (st : Stmt) (i : Nat) : Prop where
  ex : ∃ (N ps : List Str) (fn : Fn), FnScope N ps (C8.fnScope st) ∧
    (∀ (kV doc pm : Value) (an : Option Addr) (cdv ct : Value) (us : List Value), us.length = ps.length → bindArgs (PySem.W.fnOf x x (C8.fnArgs st) (C8.fnBody st) (C8.fnScope st) .none kV doc pm an cdv ct) ⟨us, []⟩ = pure (ps.zip us)) ∧
    T.P[i]? = some fn ∧ fn.ps = ps.length ∧ fn.n = N.length ∧ chkB T N (C8.fnScope st) fn.body (C8.fnBody st) = true
/-- what the top has written -/
structure DefK (K : PySem.W.Frag) (x : Str) (st : Stmt) (f : Addr) : Prop where
  nm : PySem.W.nsIn K mainGlobals x = some (some (.ref f))
  fn : ∃ (oc : Value) (od : Option Addr) (kV doc pm : Value) (an : Option Addr) (cdv ct : Value) (osl : Array (Option Value)),
    K.lookup f = some ⟨oc, od, .func (PySem.W.fnOf x x (C8.fnArgs st) (C8.fnBody st) (C8.fnScope st) .none kV doc pm an cdv ct), osl⟩ ∧ PySem.W.codeIn K cdv x = true
  kp : PySem.W.keepIn K (.ref f) = true
theorem defK {K : PySem.W.Frag} {x : Str} {st : Stmt} {f : Addr} {oc : Value} {od : Option Addr} {kV doc pm : Value} {an : Option Addr} {cdv ct : Value} {osl : Array (Option Value)} (a : PySem.W.nsIn K mainGlobals x = some (some (.ref f)))
    (l : K.lookup f = some ⟨oc, od, .func (PySem.W.fnOf x x (C8.fnArgs st) (C8.fnBody st) (C8.fnScope st) .none kV doc pm an cdv ct), osl⟩) (c : PySem.W.codeIn K cdv x = true) (k : PySem.W.keepIn K (.ref f) = true) : DefK K x st f :=
  ⟨a, ⟨oc, od, kV, doc, pm, an, cdv, ct, osl, l, c⟩, k⟩
def DefsK (K : PySem.W.Frag) : List (Str × Stmt) → List Addr → Prop
  | [], fs => fs = []
  | d :: r, fs => ∃ f q, fs = f :: q ∧ DefK K d.1 d.2 f ∧ DefsK K r q
theorem dk_nil {K : PySem.W.Frag} : DefsK K [] [] := rfl
theorem dk_cons {K : PySem.W.Frag} {x : Str} {st : Stmt} {f : Addr} {r : List (Str × Stmt)} {q : List Addr} (h : DefK K x st f) (t : DefsK K r q) : DefsK K ((x, st) :: r) (f :: q) := ⟨f, q, rfl, h, t⟩
theorem DefsK.at {K : PySem.W.Frag} : ∀ {ds : List (Str × Stmt)} {fs : List Addr} {i : Nat}, DefsK K ds fs → (∀ f, fs[i]? = some f → ∃ d, ds[i]? = some d ∧ DefK K d.1 d.2 f) ∧ (∀ d, ds[i]? = some d → ∃ f, fs[i]? = some f)
  | [], fs, i, h => by
    cases (show fs = [] from h)
    exact ⟨fun f e => by simp at e, fun d e => by simp at e⟩
  | d :: r, fs, 0, h => by
    obtain ⟨f, q, rfl, h1, h2⟩ := h
    exact ⟨fun f' e => ⟨d, rfl, by cases e; exact h1⟩, fun d e => ⟨f, rfl⟩⟩
  | d :: r, fs, i + 1, h => by
    obtain ⟨f, q, rfl, h1, h2⟩ := h
    exact ⟨fun f' e => (DefsK.at h2).1 f' (by simpa using e), fun d' e => by
      obtain ⟨f, e1⟩ := (DefsK.at (i := i) h2).2 d' (by simpa using e)
      exact ⟨f, by simpa using e1⟩⟩
def BltK (K : PySem.W.Frag) (l : List Str) : Prop := ∀ x ∈ l, PySem.W.nsIn K mainGlobals x = some none
theorem bk_nil {K : PySem.W.Frag} : BltK K [] := fun x h => by cases h
theorem bk_cons {K : PySem.W.Frag} {x : Str} {r : List Str} (h : PySem.W.nsIn K mainGlobals x = some none) (t : BltK K r) : BltK K (x :: r) := fun y hy => by
  rcases List.mem_cons.mp hy with q | q
  · rw [q]; exact h
  · exact t y q
def CstK (K : PySem.W.Frag) (l : List (Str × Int)) : Prop := ∀ x i, l.lookup x = some i → ∃ t, PySem.W.nsIn K mainGlobals x = some (some (.int i t))
theorem ck_nil {K : PySem.W.Frag} : CstK K [] := fun x i h => by cases h
theorem ck_cons {K : PySem.W.Frag} {x : Str} {i : Int} {t : Tok} {r : List (Str × Int)} (h : PySem.W.nsIn K mainGlobals x = some (some (.int i t))) (q : CstK K r) : CstK K ((x, i) :: r) := fun y j e => by
  by_cases z : y = x
  · subst z
    rw [List.lookup_cons_self] at e
    cases e
    exact ⟨t, h⟩
  · have : (y == x) = false := by simpa using z
    rw [List.lookup_cons, this] at e
    exact q y j e
def namesFrom : Nat → List (Str × Stmt) → List (Str × Nat)
  | _, [] => []
  | k, (x, _) :: r => (x, k) :: namesFrom (k + 1) r
theorem names_at : ∀ (ds : List (Str × Stmt)) (k : Nat) (x : Str) (f : Nat), (namesFrom k ds).lookup x = some f → k ≤ f ∧ (ds[f - k]?).map (·.1) = some x
  | [], _, _, _, h => by cases h
  | (y, st) :: r, k, x, f, h => by
    unfold namesFrom at h
    by_cases z : x = y
    · subst z
      rw [List.lookup_cons_self] at h
      cases h
      exact ⟨Nat.le_refl _, by rw [Nat.sub_self]; rfl⟩
    · have : (x == y) = false := by simpa using z
      rw [List.lookup_cons, this] at h
      obtain ⟨h1, h2⟩ := names_at r (k + 1) x f h
      refine ⟨by omega, ?_⟩
      have e : f - k = (f - (k + 1)) + 1 := by omega
      rw [e, List.getElem?_cons_succ]
      exact h2
/-- the facts of the top -/
structure Facts (T : Tab) (ds : List (Str × Stmt)) (K : PySem.W.Frag) : Prop where
  ex : ∃ fs : List Addr, DefsK K ds fs ∧ BltK K T.blt ∧ CstK K T.cst ∧ (T.gcd = true → PySem.W.nsIn K mainGlobals "gcd" = some (some (.builtin "math.gcd")))
theorem facts {T : Tab} {ds : List (Str × Stmt)} {K : PySem.W.Frag} {h : Heap} {fs : List Addr} (_ : K.In h) (d : DefsK K ds fs) (b : BltK K T.blt) (c : CstK K T.cst) (g : T.gcd = true → PySem.W.nsIn K mainGlobals "gcd" = some (some (.builtin "math.gcd"))) : Facts T ds K :=
  ⟨fs, d, b, c, g⟩
theorem glb {T : Tab} {ds : List (Str × Stmt)} {K : PySem.W.Frag} {h : Heap} {mg : Str → Option Value} {fs : List Addr} (X : K.In h) (G : h.Ns mainGlobals mg) (hn : T.names = namesFrom 0 ds) (dt : ∀ i d, ds[i]? = some d → DefT T d.1 d.2 i)
    (dk : DefsK K ds fs) (b : BltK K T.blt) (c : CstK K T.cst) (g : T.gcd = true → PySem.W.nsIn K mainGlobals "gcd" = some (some (.builtin "math.gcd"))) : Glb T (fun i => fs[i]?) K mg := by
  refine ⟨fun x f e => ?_, fun x hx => PySem.W.mg_none_of X G (b x hx), fun x i e => let ⟨t, q⟩ := c x i e; ⟨t, PySem.W.mg_of X G q⟩, fun q => PySem.W.mg_of X G (g q), fun f a e => ?_⟩
  · rw [hn] at e
    obtain ⟨_, e1⟩ := names_at ds 0 x f e
    rw [Nat.sub_zero] at e1
    obtain ⟨d, e2, e3⟩ := Option.map_eq_some_iff.mp e1
    obtain ⟨a, ha⟩ := (dk.at (i := f)).2 d e2
    obtain ⟨d', e4, dk'⟩ := (dk.at (i := f)).1 a ha
    rw [e2] at e4; cases e4
    rw [← e3]
    exact ⟨a, ha, PySem.W.mg_of X G dk'.nm⟩
  · obtain ⟨d, e4, dk'⟩ := (dk.at (i := f)).1 a e
    obtain ⟨oc, od, kV, doc, pm, an, cdv, ct, osl, l1, l2⟩ := dk'.fn
    obtain ⟨N, ps, fn, t1, t2, t3, t4, t5, t6⟩ := (dt f d e4).ex
    exact ⟨dk'.kp, d.1, d.1, d.2, _, N, ps, fn, ⟨oc, od, .none, kV, doc, pm, an, cdv, ct, osl, rfl, l1, l2⟩, .all fun us hl => t2 kV doc pm an cdv ct us hl, t1, t3, t4, t5, t6⟩

/-! ### the end -/
/-- the law, called -/
theorem law_run {P : Program} {w : World} {K : PySem.W.Frag} {mg mb : Str → Option Value} {T : Tab} {F : Nat → Option Addr} {k i : Nat} {fa a : Addr} {s1 : Shared} {vs : List Value} {ns : List Int} (KX : K.In s1.heap) (n1 : s1.heap.Ns mainGlobals mg)
    (n2 : s1.heap.Ns builtinsNs mb) (n3 : ∀ x : Str, x ≠ "__name__" → mb x = bootBuiltins x) (n4 : s1.heap.NoLimit) (n5 : s1.gens = #[]) (ha : s1.heap.get? a = some { cls := .type "list", data := .seq vs.toArray }) (hi : IntsAre vs ns)
    (hl : ns.length ≤ sizeLine) (hr : Room k callerA) (G : Glb T F K mg) (hf : F i = some fa) (ev : ∃ h', callF T.P k i [.scr (ns.map .int)] [] = .ok (.bl true, h')) :
    codeAny (model P w) callerA (.call (.ref fa) ⟨[.ref a], []⟩) (fun r s' => r = .ok (.ret (.bool true)) ∧ OldK s1.heap s'.heap ∧ s'.os = s1.os ∧ AllBare s'.gens) s1 := by
  have rv := vals_ints hi
  have reps : ∀ H : Hp, Reps K F [] [] H (ns.map D.int) (ns.map V.int) := fun H => by
    clear hl ev hi rv
    induction ns with
    | nil => exact Reps.nil'
    | cons n r ih => exact Reps.cons' (by unfold Rep; rfl) ih
  have go : ∀ H : Hp, (∀ b u, H b = some u → b = a ∧ u = .frz { cls := .type "list", data := .seq vs.toArray } (.lst (ns.map V.int)) ∧ K.lookup a = none) → SqL K H a (ns.map V.int) →
      codeAny (model P w) callerA (.call (.ref fa) ⟨[.ref a], []⟩) (fun r s' => r = .ok (.ret (.bool true)) ∧ OldK s1.heap s'.heap ∧ s'.os = s1.os ∧ AllBare s'.gens) s1 := by
    intro H hH hS
    have hok : HOk P w H s1.heap := fun b u e => by
      obtain ⟨rfl, rfl, _⟩ := hH b u e
      exact ⟨ha, by rw [List.length_map]; exact hl, vs, _, rv, ha⟩
    have free : ∀ {b : Addr} {o : Obj}, s1.heap.get? b = some o → (∀ its n, o.data ≠ .seq its n) → H b = none := fun {b o} e ne => by
      cases q : H b with
      | none => rfl
      | some u =>
        obtain ⟨rfl, _, _⟩ := hH b u q
        rw [ha] at e
        cases e
        exact (ne _ _ rfl).elim
    have ns' : ∀ {b : Addr} {m : Str → Option Value}, s1.heap.Ns b m → (hidT s1.heap H).Ns b m := fun {b m} z => by
      obtain ⟨o, es, ep, e, d, r⟩ := z
      exact ⟨o, es, ep, hidT_get e (free e fun its n q => by rw [d] at q; cases q), d, r⟩
    have hKb : K.In (hidT s1.heap H) := fun b o e => by
      refine hidT_get (KX b o e) ?_
      cases q : H b with
      | none => rfl
      | some u =>
        obtain ⟨rfl, _, z⟩ := hH b u q
        rw [z] at e; cases e
    have md : Mod K mg (hidT s1.heap H) := ⟨hKb, ns' n1, ⟨mb, ns' n2, n3⟩, by obtain ⟨mc, z1, z2⟩ := n4; exact ⟨mc, ns' z1, z2⟩⟩
    have e0 : Env0 P w K mg (hidT s1.heap H) callerA [] s1 H := ⟨rfl, md, fun b o e => of_hidT e, Nat.le_of_eq (hidT_size _ _), trivial, fun b hb => (nomatch hb), hok, .of_eq n5⟩
    obtain ⟨fd, ps, fn, q1, q2, q3, M⟩ := (def_ok (P := P) (w := w) (base := hidT s1.heap H) G k i fa hf).ex
    obtain ⟨h', ev⟩ := ev
    have plen : ps.length = 1 := by
      cases k with
      | zero => cases ev
      | succ k =>
        have e' : (match T.P[i]? with
          | none => (.error .stuck : R (D × MH))
          | some fn => grd (decide (1 = fn.ps)) (bnd (exec (callF T.P k) fn.body ([D.scr (ns.map .int)].map some ++ List.replicate (fn.n - fn.ps) none) []) fun p h1 => match p.1 with
            | .rt d => finish fn.mv 0 d h1
            | .nx => finish fn.mv 0 .non h1
            | _ => .error .stuck)) = .ok (.bl true, h') := ev
        rw [q1] at e'
        rw [q2]
        exact (of_decide_eq_true (grd_inv e').1).symm
    have bt := q3 s1 [.ref a] KX (by rw [List.append_nil]; exact plen.symm)
    rw [List.append_nil] at bt
    have sp : spF K F T.P k i [.ref a] H fun v _ => v = .bl true := by
      refine ⟨[], [], [], [.scr (ns.map .int)], .bl true, h', ⟨rfl, fun i j a q => by simp at q, fun b hb => (nomatch hb), fun i o q => by simp at q⟩, Reps.cons' ?_ Reps.nil', ev, fun v H' rho' _ _ r => r.ebl⟩
      unfold Rep
      refine ⟨a, _, rfl, ?_, reps H⟩
      rcases hS with z | z
      · exact .inl ⟨z, by simp, by simp⟩
      · exact .inr z
    refine codeAny_mono (M.run callerA [] s1 H ⟨[.ref a], []⟩ [.ref a] [.ref a] _ hr rfl e0 bt (.cons rfl .nil) plen.symm sp) fun r s' z => ?_
    cases r with
    | error e => exact False.elim z
    | ok fl =>
      cases fl with
      | ret u =>
        obtain ⟨v, H', os, bare, un, hok', r', q⟩ := z
        obtain rfl : v = V.bl true := q
        obtain rfl : u = Value.bool true := r'
        refine ⟨rfl, OldK.of_keep fun b o e => ?_, os, bare⟩
        cases q : H b with
        | none => exact un.keep b o e q (fun z => nomatch z) (fun z => nomatch z)
        | some u =>
          obtain ⟨rfl, rfl, _⟩ := hH b u q
          have z1 := (hok' b _ (un.frzs b _ _ q)).1
          rw [ha] at e
          cases e
          exact z1
      | next => exact False.elim z
      | brk => exact False.elim z
      | cont => exact False.elim z
  cases hk : K.lookup a with
  | some o =>
    have e := KX a o hk
    rw [ha] at e
    cases e
    exact go (fun _ => none) (fun b u z => (nomatch (show (none : Option HO) = some u from z))) (.inr ⟨_, vs.toArray, _, hk, rfl, rfl, rfl, by rw [List.size_toArray, hi.length]; exact hl, by simpa using rv⟩)
  | none =>
    refine go (fun b => if b = a then some (.frz { cls := .type "list", data := .seq vs.toArray } (.lst (ns.map V.int))) else none) (fun b u z => ?_) (.inl (.inr ⟨{ cls := .type "list", data := .seq vs.toArray }, if_pos rfl⟩))
    by_cases hb : b = a
    · have z' := (if_pos hb).symm.trans z
      cases z'
      exact ⟨hb, rfl, hk⟩
    · have z' := (if_neg hb).symm.trans z
      cases z'
/-- the goal that is left of a row: by what the evaluator tells -/
theorem walk {l : PySem.W.OpenLaw} {n k i : Nat} {q : Program} {loose : List Str} {XP : (Str → Option Value) → Heap → Prop} {YP : World → Heap → Prop} {d : DefRec} {K : Params → PySem.W.Frag} {T : Tab} {ds : List (Str × Stmt)} (hn : l.most = some n)
    (hdf : d.params.defaults = []) (hY : ∀ (w : World) (h : Heap), YP w h → (K w.params).In h) (F : ∀ (w : World) (h : Heap), (K w.params).In h → Facts T ds (K w.params))
    (hn2 : n ≤ sizeLine) (hr : Room k callerA) (nm : T.names = namesFrom 0 ds) (dt : ∀ i d, ds[i]? = some d → DefT T d.1 d.2 i) (hi : (ds[i]?).map (·.1) = some d.name)
    (ev : ∀ ns : List Int, ns.length ≤ n → ∃ h', callF T.P k i [.scr (ns.map .int)] [] = .ok (.bl true, h')) : PySem.W.WalkO q loose XP YP l.row.toRowW d [] (fun f vs => PySem.call f vs) := by
  refine Att.attach_call hn hdf fun w s₀ s₁ mg mb fa o pm cd doc a vs ns G Y ho hd hcd hmg hobj hints hlen hg => ?_
  have KX := hY w _ Y
  obtain ⟨fs, f1, f2, f3, f4⟩ := (F w _ KX).ex
  obtain ⟨dd, e1, e2⟩ := Option.map_eq_some_iff.mp hi
  obtain ⟨fb, hb⟩ := (f1.at (i := i)).2 dd e1
  obtain ⟨d2, e3, dk⟩ := (f1.at (i := i)).1 fb hb
  rw [e1] at e3; cases e3
  have e4 := PySem.W.mg_of KX G.T.g dk.nm
  rw [e2, hmg] at e4
  cases e4
  exact law_run KX G.T.g G.T.b G.T.builtins G.T.nolimit hg hobj hints (Nat.le_trans hlen hn2) hr (glb KX G.T.g nm dt f1 f2 f3 f4) hb (ev ns hlen)
end Mi
/-! Mi: how a text is run by hand: what is wanted goes backwards through it. -/
namespace Mi

def We (call : Caller) (e : Ex) (σ : Env) (h : MH) (Q : D → MH → Prop) : Prop := ∃ d h', ev call e σ h = .ok (d, h') ∧ Q d h'
def Ws (call : Caller) (s : St) (σ : Env) (h : MH) (Q : Fl → Env → MH → Prop) : Prop := ∃ fl σ' h', exec call s σ h = .ok ((fl, σ'), h') ∧ Q fl σ' h'
def Wc (call : Caller) (f : Nat) (l : List D) (h : MH) (Q : D → MH → Prop) : Prop := ∃ d h', call f l h = .ok (d, h') ∧ Q d h'
def Wr (r : R (D × MH)) (Q : D → MH → Prop) : Prop := ∃ d h', r = .ok (d, h') ∧ Q d h'
section
variable {call : Caller} {σ : Env} {h h' : MH} {Q : D → MH → Prop}
theorem We.mono {e : Ex} {Q' : D → MH → Prop} (w : We call e σ h Q) (m : ∀ d h', Q d h' → Q' d h') : We call e σ h Q' := let ⟨d, h', e, q⟩ := w; ⟨d, h', e, m _ _ q⟩
theorem Ws.mono {s : St} {Q Q' : Fl → Env → MH → Prop} (w : Ws call s σ h Q) (m : ∀ f σ' h', Q f σ' h' → Q' f σ' h') : Ws call s σ h Q' := let ⟨d, σ', h', e, q⟩ := w; ⟨d, σ', h', e, m _ _ _ q⟩
theorem Wc.mono {f : Nat} {l : List D} {Q' : D → MH → Prop} (w : Wc call f l h Q) (m : ∀ d h', Q d h' → Q' d h') : Wc call f l h Q' := let ⟨d, h', e, q⟩ := w; ⟨d, h', e, m _ _ q⟩
theorem bnd_eq {α β : Type} {r : R (α × MH)} {f : α → MH → R β} {z : β} : bnd r f = .ok z ↔ ∃ a h, r = .ok (a, h) ∧ f a h = .ok z :=
  ⟨bnd_inv, fun ⟨a, h, e, q⟩ => by rw [e, bnd_ok]; exact q⟩
theorem opt_eq {α β : Type} {o : Option α} {f : α → R β} {z : β} : opt o f = .ok z ↔ ∃ a, o = some a ∧ f a = .ok z :=
  ⟨opt_inv, fun ⟨a, e, q⟩ => by rw [e, opt_some]; exact q⟩
theorem grd_eq {β : Type} {b : Bool} {r : R β} {z : β} : grd b r = .ok z ↔ b = true ∧ r = .ok z := ⟨grd_inv, fun ⟨e, q⟩ => by rw [e, grd_true]; exact q⟩
theorem wr_ok {d : D} : Wr (.ok (d, h)) Q ↔ Q d h := ⟨fun ⟨_, _, e, q⟩ => by cases e; exact q, fun q => ⟨d, h, rfl, q⟩⟩
theorem wr_err {e : Err} : Wr (.error e) Q ↔ False := Iff.intro (fun w => by obtain ⟨_, _, e, _⟩ := w; cases e) False.elim
theorem wr_opt {α : Type} {o : Option α} {f : α → R (D × MH)} : Wr (opt o f) Q ↔ ∃ a, o = some a ∧ Wr (f a) Q := by
  constructor
  · rintro ⟨d, h', e, q⟩
    obtain ⟨a, e1, e2⟩ := opt_inv e
    exact ⟨a, e1, d, h', e2, q⟩
  · rintro ⟨a, rfl, d, h', e, q⟩
    exact ⟨d, h', e, q⟩
theorem wr_grd {b : Bool} {r : R (D × MH)} : Wr (grd b r) Q ↔ b = true ∧ Wr r Q := by
  constructor
  · rintro ⟨d, h', e, q⟩
    obtain ⟨e1, e2⟩ := grd_inv e
    exact ⟨e1, d, h', e2, q⟩
  · rintro ⟨rfl, d, h', e, q⟩
    exact ⟨d, h', e, q⟩
theorem wr_bnd {α : Type} {r : R (α × MH)} {f : α → MH → R (D × MH)} : Wr (bnd r f) Q ↔ ∃ a h1, r = .ok (a, h1) ∧ Wr (f a h1) Q := by
  constructor
  · rintro ⟨d, h', e, q⟩
    obtain ⟨a, h1, e1, e2⟩ := bnd_inv e
    exact ⟨a, h1, e1, d, h', e2, q⟩
  · rintro ⟨a, h1, rfl, d, h', e, q⟩
    exact ⟨d, h', e, q⟩
theorem we_def {e : Ex} : We call e σ h Q ↔ Wr (ev call e σ h) Q := Iff.rfl
theorem wc_def {f : Nat} {l : List D} : Wc call f l h Q ↔ Wr (call f l h) Q := Iff.rfl
theorem wr_we {e : Ex} {f : D → MH → R (D × MH)} : Wr (bnd (ev call e σ h) f) Q ↔ We call e σ h fun d h1 => Wr (f d h1) Q := by
  rw [wr_bnd]
  exact ⟨fun ⟨a, h1, e, q⟩ => ⟨a, h1, e, q⟩, fun ⟨a, h1, e, q⟩ => ⟨a, h1, e, q⟩⟩
theorem wr_alc {m : Bool} {d : D} : Wr (alc m d h) Q ↔ if m && isObj d then Q (.ref h.length) (h ++ [d]) else Q d h := by
  unfold alc
  by_cases q : (m && isObj d) = true
  · rw [if_pos q, if_pos q]; exact wr_ok
  · rw [if_neg q, if_neg q]; exact wr_ok
/-! #### expressions -/
theorem we_var {i : Nat} : We call (.var i) σ h Q ↔ ∃ d, σ[i]? = some (some d) ∧ Q d h := by
  show Wr (match σ[i]? with
    | some (some d) => .ok (d, h)
    | _ => .error .stuck) Q ↔ _
  split
  · rename_i d e
    rw [wr_ok]
    exact ⟨fun q => ⟨d, e, q⟩, fun ⟨d', e', q⟩ => by rw [e] at e'; cases e'; exact q⟩
  · rename_i ne
    rw [wr_err]
    exact ⟨False.elim, fun ⟨d', e', q⟩ => ne d' e'⟩
theorem we_int {i : Int} : We call (.int i) σ h Q ↔ Q (.int i) h := wr_ok
theorem we_str {i : PySem.Str} : We call (.str i) σ h Q ↔ Q (.str i) h := wr_ok
theorem we_bl {i : Bool} : We call (.bl i) σ h Q ↔ Q (.bl i) h := wr_ok
theorem we_non : We call .non σ h Q ↔ Q .non h := wr_ok
theorem we_nopart : We call .nopart σ h Q ↔ Q .non h := wr_ok
theorem we_gint {x : PySem.Str} {i : Int} : We call (.gint x i) σ h Q ↔ Q (.int i) h := wr_ok
theorem we_gfn {x : PySem.Str} {f : Nat} : We call (.gfn x f) σ h Q ↔ Q (.fn f) h := wr_ok
theorem we_bin {o : BOp} {m : Bool} {a b : Ex} : We call (.bin o m a b) σ h Q ↔ We call a σ h fun x h1 => We call b σ h1 fun y h2 => ∃ d, binD o (deref h2 x) (deref h2 y) = some d ∧ if m && isObj d then Q (.ref h2.length) (h2 ++ [d]) else Q d h2 := by
  show Wr (bnd _ _) Q ↔ _
  simp only [wr_we, wr_opt, wr_alc]
theorem we_neg {a : Ex} : We call (.neg a) σ h Q ↔ We call a σ h fun x h1 => ∃ i, x = .int i ∧ Q (.int (-i)) h1 := by
  show Wr (bnd _ _) Q ↔ _
  rw [wr_we]
  constructor <;> (refine fun w => w.mono fun d h1 q => ?_)
  · cases d <;> first | exact ⟨_, rfl, wr_ok.mp q⟩ | exact (wr_err.mp q).elim
  · obtain ⟨i, rfl, q⟩ := q; exact wr_ok.mpr q
theorem we_cmp {o : COp} {a b : Ex} : We call (.cmp o a b) σ h Q ↔ We call a σ h fun x h1 => We call b σ h1 fun y h2 => ∃ t, cmpD o (deref h2 x) (deref h2 y) = some t ∧ Q (.bl t) h2 := by
  show Wr (bnd _ _) Q ↔ _
  simp only [wr_we, wr_opt, wr_ok]
theorem we_chain {o p : COp} {a b c : Ex} : We call (.chain o p a b c) σ h Q ↔ We call a σ h fun x h1 => We call b σ h1 fun y h2 => ∃ t, cmpD o (deref h2 x) (deref h2 y) = some t ∧
    if t = true then We call c σ h2 fun z h3 => ∃ u, cmpD p (deref h3 y) (deref h3 z) = some u ∧ Q (.bl u) h3 else Q (.bl false) h2 := by
  show Wr (bnd _ _) Q ↔ _
  simp only [wr_we, wr_opt]
  refine Iff.intro (fun w => w.mono fun x h1 w => w.mono fun y h2 w => ?_) (fun w => w.mono fun x h1 w => w.mono fun y h2 w => ?_)
  all_goals
    obtain ⟨t, e, q⟩ := w
    refine ⟨t, e, ?_⟩
    cases t
    · first | exact wr_ok.mp q | exact wr_ok.mpr q
    · simpa only [if_true, wr_we, wr_opt, wr_ok] using q
theorem we_andd {a b : Ex} : We call (.andd a b) σ h Q ↔ We call a σ h fun x h1 => ∃ t, truD (deref h1 x) = some t ∧ if t = true then We call b σ h1 Q else Q x h1 := by
  show Wr (bnd _ _) Q ↔ _
  simp only [wr_we, wr_opt]
  refine Iff.intro (fun w => w.mono fun x h1 w => ?_) (fun w => w.mono fun x h1 w => ?_)
  all_goals
    obtain ⟨t, e, q⟩ := w
    refine ⟨t, e, ?_⟩
    cases t
    · first | exact wr_ok.mp q | exact wr_ok.mpr q
    · exact q
theorem we_orr {a b : Ex} : We call (.orr a b) σ h Q ↔ We call a σ h fun x h1 => ∃ t, truD (deref h1 x) = some t ∧ if t = true then Q x h1 else We call b σ h1 Q := by
  show Wr (bnd _ _) Q ↔ _
  simp only [wr_we, wr_opt]
  refine Iff.intro (fun w => w.mono fun x h1 w => ?_) (fun w => w.mono fun x h1 w => ?_)
  all_goals
    obtain ⟨t, e, q⟩ := w
    refine ⟨t, e, ?_⟩
    cases t
    · exact q
    · first | exact wr_ok.mp q | exact wr_ok.mpr q
theorem we_one {a : Ex} : We call (.one a) σ h Q ↔ We call a σ h Q := Iff.rfl
theorem we_nott {a : Ex} : We call (.nott a) σ h Q ↔ We call a σ h fun x h1 => ∃ t, truD (deref h1 x) = some t ∧ Q (.bl (!t)) h1 := by
  show Wr (bnd _ _) Q ↔ _
  simp only [wr_we, wr_opt, wr_ok]
theorem we_ite {a b c : Ex} : We call (.ite c a b) σ h Q ↔ We call c σ h fun x h1 => ∃ t, truD (deref h1 x) = some t ∧ if t = true then We call a σ h1 Q else We call b σ h1 Q := by
  show Wr (bnd _ _) Q ↔ _
  simp only [wr_we, wr_opt]
  refine Iff.intro (fun w => w.mono fun x h1 w => ?_) (fun w => w.mono fun x h1 w => ?_)
  all_goals
    obtain ⟨t, e, q⟩ := w
    refine ⟨t, e, ?_⟩
    cases t <;> exact q
/-- a row of expressions, as values -/
def Wl (call : Caller) (e : Ex) (σ : Env) (h : MH) (Q : List D → MH → Prop) : Prop := We call e σ h fun x h1 => ∃ l, x = .tup l ∧ Q l h1
theorem wl_nil {Q : List D → MH → Prop} : Wl call .nil σ h Q ↔ Q [] h := by
  unfold Wl
  show Wr (.ok (.tup [], h)) _ ↔ _
  rw [wr_ok]
  exact ⟨fun ⟨l, e, q⟩ => by cases e; exact q, fun q => ⟨[], rfl, q⟩⟩
theorem wl_cons {a b : Ex} {Q : List D → MH → Prop} : Wl call (.cons a b) σ h Q ↔ We call a σ h fun x h1 => Wl call b σ h1 fun l h2 => Q (x :: l) h2 := by
  unfold Wl
  show Wr (bnd _ _) _ ↔ _
  simp only [wr_we]
  refine Iff.intro (fun w => w.mono fun x h1 w => w.mono fun y h2 q => ?_) (fun w => w.mono fun x h1 w => w.mono fun y h2 q => ?_)
  · cases y <;> first
      | (obtain ⟨l, e, q⟩ := wr_ok.mp q; cases e; exact ⟨_, rfl, q⟩)
      | exact (wr_err.mp q).elim
  · obtain ⟨l, rfl, q⟩ := q
    exact wr_ok.mpr ⟨_, rfl, q⟩
theorem wr_l {e : Ex} {g : D → MH → R (D × MH)} (f : List D → MH → R (D × MH)) (g1 : ∀ l h1, g (.tup l) h1 = f l h1) (g2 : ∀ x h1, (∀ l, x ≠ .tup l) → g x h1 = .error .stuck) :
    (We call e σ h fun x h1 => Wr (g x h1) Q) ↔ Wl call e σ h fun l h1 => Wr (f l h1) Q := by
  refine Iff.intro (fun w => w.mono fun x h1 q => ?_) (fun w => w.mono fun x h1 q => ?_)
  · by_cases hx : ∃ l, x = .tup l
    · obtain ⟨l, rfl⟩ := hx
      rw [g1] at q
      exact ⟨l, rfl, q⟩
    · rw [g2 x h1 fun l e => hx ⟨l, e⟩] at q
      exact (wr_err.mp q).elim
  · obtain ⟨l, rfl, q⟩ := q
    rw [g1]
    exact q
theorem no_tup {α : Type} {x : D} {a b : α} (hx : ∀ l, x ≠ .tup l) (h : ∀ l, x = .tup l → a = b) (h2 : (∀ l, x ≠ .tup l) → a = b) : a = b := h2 hx
theorem we_tup {es : Ex} : We call (.tup es) σ h Q ↔ Wl call es σ h fun l h1 => l.length ≤ szL ∧ Q (.tup l) h1 := by
  show Wr (bnd _ _) Q ↔ _
  rw [wr_we]
  refine Iff.trans (wr_l (fun l h1 => _) (fun _ _ => rfl) (fun x h1 hx => by cases x <;> first | rfl | exact absurd rfl (hx _))) ?_
  simp only [wr_grd, wr_ok, decide_eq_true_eq]
theorem we_lst {m : Bool} {es : Ex} : We call (.lst m es) σ h Q ↔ Wl call es σ h fun l h1 => l.length ≤ szL ∧ if m = true then Q (.ref h1.length) (h1 ++ [.lst l]) else Q (.lst l) h1 := by
  show Wr (bnd _ _) Q ↔ _
  rw [wr_we]
  refine Iff.trans (wr_l (fun l h1 => _) (fun _ _ => rfl) (fun x h1 hx => by cases x <;> first | rfl | exact absurd rfl (hx _))) ?_
  simp only [wr_grd, wr_alc, decide_eq_true_eq, isObj, Bool.and_true]
theorem we_dct {m t : Bool} : We call (.dct m t) σ h Q ↔ if m = true then Q (.ref h.length) (h ++ [if t = true then .dT [] [] else .dK [] []]) else Q (if t = true then .dT [] [] else .dK [] []) h := by
  show Wr (alc _ _ _) Q ↔ _
  rw [wr_alc]
  cases t <;> simp [isObj]
theorem we_dsp {m : Bool} {ks : List L2.Key} {vs : Ex} : We call (.dsp m ks vs) σ h Q ↔ Wl call vs σ h fun l h1 => (ks.length = l.length ∧ ks.length ≤ 15 ∧ ks.Nodup) ∧ if m = true then Q (.ref h1.length) (h1 ++ [.dK ks l]) else Q (.dK ks l) h1 := by
  show Wr (bnd _ _) Q ↔ _
  rw [wr_we]
  refine Iff.trans (wr_l (fun l h1 => _) (fun _ _ => rfl) (fun x h1 hx => by cases x <;> first | rfl | exact absurd rfl (hx _))) ?_
  simp only [wr_grd, wr_alc, decide_eq_true_eq, isObj, Bool.and_true, Bool.and_eq_true, and_assoc]
theorem we_call {x : PySem.Str} {f : Nat} {es : Ex} : We call (.call x f es) σ h Q ↔ Wl call es σ h fun l h1 => Wc call f l h1 Q := by
  show Wr (bnd _ _) Q ↔ _
  rw [wr_we]
  refine Iff.trans (wr_l (fun l h1 => _) (fun _ _ => rfl) (fun x h1 hx => by cases x <;> first | rfl | exact absurd rfl (hx _))) ?_
  rfl
theorem we_callv {i : Nat} {es : Ex} : We call (.callv i es) σ h Q ↔ Wl call es σ h fun l h1 => ∃ f, σ[i]? = some (some (.fn f)) ∧ Wc call f l h1 Q := by
  show Wr (bnd _ _) Q ↔ _
  rw [wr_we]
  refine Iff.trans (wr_l (fun l h1 => match σ[i]? with
    | some (some (.fn f)) => call f l h1
    | _ => .error .stuck) (fun _ _ => rfl) (fun x h1 hx => by cases x <;> first | rfl | exact absurd rfl (hx _))) ?_
  refine Iff.intro (fun w => w.mono fun x h1 q => ?_) (fun w => w.mono fun x h1 q => ?_)
  · obtain ⟨l, e, q⟩ := q
    refine ⟨l, e, ?_⟩
    split at q
    · rename_i f ef; exact ⟨f, ef, q⟩
    · exact (wr_err.mp q).elim
  · obtain ⟨l, e, f, ef, q⟩ := q
    refine ⟨l, e, ?_⟩
    rw [ef]
    exact q
theorem we_bi {b : Bi} {m : Bool} {es : Ex} : We call (.bi b m es) σ h Q ↔ Wl call es σ h fun l h1 => ∃ d, biD b (l.map (deref h1)) = some d ∧ if m && isObj d then Q (.ref h1.length) (h1 ++ [d]) else Q d h1 := by
  show Wr (bnd _ _) Q ↔ _
  rw [wr_we]
  refine Iff.trans (wr_l (fun l h1 => _) (fun _ _ => rfl) (fun x h1 hx => by cases x <;> first | rfl | exact absurd rfl (hx _))) ?_
  simp only [wr_opt, wr_alc]
theorem we_isi {t : Ty} {a : Ex} : We call (.isi t a) σ h Q ↔ We call a σ h fun x h1 => ∃ b, isiD t (deref h1 x) = some b ∧ Q (.bl b) h1 := by
  show Wr (bnd _ _) Q ↔ _
  simp only [wr_we, wr_opt, wr_ok]
theorem we_ix {a i : Ex} : We call (.ix a i) σ h Q ↔ We call a σ h fun x h1 => We call i σ h1 fun y h2 => ∃ d, ixD (deref h2 x) (deref h2 y) = some d ∧ Q d h2 := by
  show Wr (bnd _ _) Q ↔ _
  simp only [wr_we, wr_opt, wr_ok]
theorem we_slc {m : Bool} {a lo hi : Ex} : We call (.slc m a lo hi) σ h Q ↔ We call a σ h fun x h1 => We call lo σ h1 fun y h2 => We call hi σ h2 fun z h3 => ∃ l, endD (isNop lo) y = some l ∧ ∃ u, endD (isNop hi) z = some u ∧ ∃ d, slcD (deref h3 x) l u = some d ∧
    if m && isObj d then Q (.ref h3.length) (h3 ++ [d]) else Q d h3 := by
  show Wr (bnd _ _) Q ↔ _
  simp only [wr_we, wr_opt, wr_alc]
theorem we_rev {m : Bool} {a : Ex} : We call (.rev m a) σ h Q ↔ We call a σ h fun x h1 => ∃ l, deref h1 x = .lst l ∧ if m = true then Q (.ref h1.length) (h1 ++ [.lst l.reverse]) else Q (.lst l.reverse) h1 := by
  show Wr (bnd _ _) Q ↔ _
  rw [wr_we]
  refine Iff.intro (fun w => w.mono fun x h1 q => ?_) (fun w => w.mono fun x h1 q => ?_)
  · split at q
    · rename_i l e
      rw [wr_alc] at q
      exact ⟨l, e, by simpa [isObj] using q⟩
    · exact (wr_err.mp q).elim
  · obtain ⟨l, e, q⟩ := q
    rw [e]
    rw [wr_alc]
    simpa [isObj] using q
theorem we_me {q : Me} {a es : Ex} : We call (.me q a es) σ h Q ↔ We call a σ h fun x h1 => meTy q (deref h1 x) = true ∧ Wl call es σ h1 fun l h2 => Wr (meR q x l h2) Q := by
  show Wr (bnd _ _) Q ↔ _
  simp only [wr_we, wr_grd]
  refine Iff.intro (fun w => w.mono fun x h1 q => ⟨q.1, (wr_l (fun l h2 => meR _ x l h2) (fun _ _ => rfl) (fun x h1 hx => by cases x <;> first | rfl | exact absurd rfl (hx _))).mp q.2⟩) (fun w => w.mono fun x h1 q => ⟨q.1, (wr_l (fun l h2 => meR _ x l h2) (fun _ _ => rfl) (fun x h1 hx => by cases x <;> first | rfl | exact absurd rfl (hx _))).mpr q.2⟩)
theorem we_frz {a : Ex} : We call (.frz a) σ h Q ↔ We call a σ h fun x h1 => Wr (frzV h1 x) Q := by
  show Wr (bnd _ _) Q ↔ _
  simp only [wr_we]
theorem we_rng {es : Ex} : We call (.rng es) σ h Q ↔ Wl call es σ h fun l h1 => ∃ r, rngD l = some r ∧ Q (.lst r) h1 := by
  show Wr (bnd _ _) Q ↔ _
  rw [wr_we]
  refine Iff.trans (wr_l (fun l h1 => _) (fun _ _ => rfl) (fun x h1 hx => by cases x <;> first | rfl | exact absurd rfl (hx _))) ?_
  simp only [wr_opt, wr_ok]
/-- a comprehension -/
theorem we_lc {m : Bool} {own : List Nat} {t : Tg} {it c e : Ex} : We call (.lc m own t it c e) σ h Q ↔ We call it σ h fun w h1 =>
    ∃ L h2, lcR (fun x h2 => opt (asgD t x (wipeD σ own)) fun σ1 => bnd (ev call c σ1 h2) fun b h3 => opt (truD (deref h3 b)) fun u => if u then bnd (ev call e σ1 h3) fun d h4 => .ok (some d, h4) else .ok (none, h3)) (itrOf w h1) h1 = .ok (L, h2) ∧
      if m = true then Q (.ref h2.length) (h2 ++ [.lst L]) else Q (.lst L) h2 := by
  show Wr (bnd _ _) Q ↔ _
  rw [wr_we]
  simp only [wr_bnd, wr_alc, isObj, Bool.and_true]
end
section
variable {call : Caller} {σ : Env} {h h' : MH} {Q : Fl → Env → MH → Prop}
/-! #### statements -/
theorem ws_nil : Ws call .nil σ h Q ↔ Q .nx σ h := ⟨fun ⟨_, _, _, e, q⟩ => by cases e; exact q, fun q => ⟨_, _, _, rfl, q⟩⟩
theorem ws_pass : Ws call .pass σ h Q ↔ Q .nx σ h := ⟨fun ⟨_, _, _, e, q⟩ => by cases e; exact q, fun q => ⟨_, _, _, rfl, q⟩⟩
theorem ws_brk : Ws call .brk σ h Q ↔ Q .bk σ h := ⟨fun ⟨_, _, _, e, q⟩ => by cases e; exact q, fun q => ⟨_, _, _, rfl, q⟩⟩
theorem ws_cnt : Ws call .cnt σ h Q ↔ Q .ct σ h := ⟨fun ⟨_, _, _, e, q⟩ => by cases e; exact q, fun q => ⟨_, _, _, rfl, q⟩⟩
theorem ws_ret0 : Ws call .ret0 σ h Q ↔ Q (.rt .non) σ h := ⟨fun ⟨_, _, _, e, q⟩ => by cases e; exact q, fun q => ⟨_, _, _, rfl, q⟩⟩
/-- behind a statement -/
def nxt (call : Caller) (b : St) (Q : Fl → Env → MH → Prop) (f : Fl) (σ : Env) (h : MH) : Prop :=
  match f with
  | .nx => Ws call b σ h Q
  | f => Q f σ h
theorem ws_cons {a b : St} : Ws call (.cons a b) σ h Q ↔ Ws call a σ h (nxt call b Q) := by
  constructor
  · rintro ⟨f, σ', h', e, q⟩
    obtain ⟨⟨f1, σ1⟩, h1, e1, e2⟩ := bnd_inv e
    refine ⟨f1, σ1, h1, e1, ?_⟩
    cases f1 with
    | nx => exact ⟨f, σ', h', e2, q⟩
    | _ => cases e2; exact q
  · rintro ⟨f1, σ1, h1, e1, q⟩
    cases f1 with
    | nx =>
      obtain ⟨f, σ', h', e2, q⟩ := q
      exact ⟨f, σ', h', bnd_eq.mpr ⟨_, _, e1, e2⟩, q⟩
    | _ => exact ⟨_, _, _, bnd_eq.mpr ⟨_, _, e1, rfl⟩, q⟩
theorem nxt_nx {b : St} : nxt call b Q .nx σ h ↔ Ws call b σ h Q := Iff.rfl
theorem nxt_rt {b : St} {d : D} : nxt call b Q (.rt d) σ h ↔ Q (.rt d) σ h := Iff.rfl
theorem nxt_bk {b : St} : nxt call b Q .bk σ h ↔ Q .bk σ h := Iff.rfl
theorem nxt_ct {b : St} : nxt call b Q .ct σ h ↔ Q .ct σ h := Iff.rfl
theorem ws_asg {t : Tg} {e : Ex} : Ws call (.asg t e) σ h Q ↔ We call e σ h fun d h1 => ∃ σ1, asgD t d σ = some σ1 ∧ Q .nx σ1 h1 := by
  constructor
  · rintro ⟨f, σ', h', e, q⟩
    obtain ⟨d, h1, e1, e2⟩ := bnd_inv e
    obtain ⟨σ1, e3, e4⟩ := opt_inv e2
    cases e4
    exact ⟨d, _, e1, _, e3, q⟩
  · rintro ⟨d, h1, e1, σ1, e2, q⟩
    exact ⟨_, _, _, bnd_eq.mpr ⟨_, _, e1, opt_eq.mpr ⟨_, e2, rfl⟩⟩, q⟩
theorem ws_put {o i e : Ex} : Ws call (.put o i e) σ h Q ↔ We call e σ h fun d h1 => We call o σ h1 fun x h2 => We call i σ h2 fun y h3 => ∃ j, x = .ref j ∧ ∃ w, h3[j]? = some w ∧ ∃ w1, putD w (deref h3 y) d = some w1 ∧ d.okR j = true ∧ Q .nx σ (h3.set j w1) := by
  constructor
  · rintro ⟨f, σ', h', e, q⟩
    obtain ⟨d, h1, e1, e⟩ := bnd_inv e
    obtain ⟨x, h2, e2, e⟩ := bnd_inv e
    obtain ⟨y, h3, e3, e⟩ := bnd_inv e
    cases x <;> first
      | (obtain ⟨w, e4, e⟩ := opt_inv e
         obtain ⟨w1, e5, e⟩ := opt_inv e
         obtain ⟨g, e⟩ := grd_inv e
         cases e
         exact ⟨d, h1, e1, _, h2, e2, y, h3, e3, _, rfl, w, e4, w1, e5, g, q⟩)
      | cases e
  · rintro ⟨d, h1, e1, x, h2, e2, y, h3, e3, j, rfl, w, e4, w1, e5, g, q⟩
    exact ⟨_, _, _, bnd_eq.mpr ⟨_, _, e1, bnd_eq.mpr ⟨_, _, e2, bnd_eq.mpr ⟨_, _, e3, opt_eq.mpr ⟨_, e4, opt_eq.mpr ⟨_, e5, grd_eq.mpr ⟨g, rfl⟩⟩⟩⟩⟩⟩, q⟩
/-- x[y] = d -/
def Wp (x y d : D) (h : MH) (Q : MH → Prop) : Prop := ∃ j, x = .ref j ∧ ∃ w, h[j]? = some w ∧ ∃ w1, putD w (deref h y) d = some w1 ∧ d.okR j = true ∧ Q (h.set j w1)
theorem putR_of {x y d : D} {h : MH} {kk : MH → R ((Fl × Env) × MH)} {Q' : MH → Prop} {z : (Fl × Env) × MH} (w : Wp x y d h Q') (f : ∀ h', Q' h' → kk h' = .ok z) : putR x y d h kk = .ok z := by
  obtain ⟨j, rfl, w, e1, w1, e2, g, q⟩ := w
  exact opt_eq.mpr ⟨_, e1, opt_eq.mpr ⟨_, e2, grd_eq.mpr ⟨g, f _ q⟩⟩⟩
theorem ws_put2 {o i p j e : Ex} (w : We call e σ h fun d h1 => ∃ d1 d2, d = .tup [d1, d2] ∧ We call o σ h1 fun x h2 => We call i σ h2 fun y h3 => Wp x y d1 h3 fun h4 =>
    We call p σ h4 fun x h5 => We call j σ h5 fun y h6 => Wp x y d2 h6 fun h7 => Q .nx σ h7) : Ws call (.put2 o i p j e) σ h Q := by
  obtain ⟨d, h1, e1, d1, d2, rfl, x, h2, e2, y, h3, e3, ⟨j1, rfl, w1, a1, w1', b1, g1, x2, h5, e5, y2, h6, e6, ⟨j2, rfl, w2, a2, w2', b2, g2, q⟩⟩⟩ := w
  refine ⟨.nx, σ, _, bnd_eq.mpr ⟨_, _, e1, ?_⟩, q⟩
  refine bnd_eq.mpr ⟨_, _, e2, bnd_eq.mpr ⟨_, _, e3, ?_⟩⟩
  refine opt_eq.mpr ⟨_, a1, opt_eq.mpr ⟨_, b1, grd_eq.mpr ⟨g1, ?_⟩⟩⟩
  refine bnd_eq.mpr ⟨_, _, e5, bnd_eq.mpr ⟨_, _, e6, ?_⟩⟩
  exact opt_eq.mpr ⟨_, a2, opt_eq.mpr ⟨_, b2, grd_eq.mpr ⟨g2, rfl⟩⟩⟩
theorem ws_expr {e : Ex} : Ws call (.expr e) σ h Q ↔ We call e σ h fun _ h1 => Q .nx σ h1 := by
  constructor
  · rintro ⟨f, σ', h', e, q⟩
    obtain ⟨d, h1, e1, e2⟩ := bnd_inv e
    cases e2
    exact ⟨d, _, e1, q⟩
  · rintro ⟨d, h1, e1, q⟩
    exact ⟨_, _, _, bnd_eq.mpr ⟨_, _, e1, rfl⟩, q⟩
theorem ws_ret {e : Ex} : Ws call (.ret e) σ h Q ↔ We call e σ h fun d h1 => Q (.rt d) σ h1 := by
  constructor
  · rintro ⟨f, σ', h', e, q⟩
    obtain ⟨d, h1, e1, e2⟩ := bnd_inv e
    cases e2
    exact ⟨d, _, e1, q⟩
  · rintro ⟨d, h1, e1, q⟩
    exact ⟨_, _, _, bnd_eq.mpr ⟨_, _, e1, rfl⟩, q⟩
theorem ws_ite {c : Ex} {a b : St} : Ws call (.ite c a b) σ h Q ↔ We call c σ h fun x h1 => ∃ t, truD (deref h1 x) = some t ∧ if t = true then Ws call a σ h1 Q else Ws call b σ h1 Q := by
  constructor
  · rintro ⟨f, σ', h', e, q⟩
    obtain ⟨x, h1, e1, e⟩ := bnd_inv e
    obtain ⟨t, e2, e⟩ := opt_inv e
    refine ⟨x, h1, e1, t, e2, ?_⟩
    cases t
    · exact ⟨_, _, _, e, q⟩
    · exact ⟨_, _, _, e, q⟩
  · rintro ⟨x, h1, e1, t, e2, q⟩
    cases t
    · obtain ⟨f, σ', h', e, q⟩ := q
      exact ⟨f, σ', h', bnd_eq.mpr ⟨_, _, e1, opt_eq.mpr ⟨_, e2, e⟩⟩, q⟩
    · obtain ⟨f, σ', h', e, q⟩ := q
      exact ⟨f, σ', h', bnd_eq.mpr ⟨_, _, e1, opt_eq.mpr ⟨_, e2, e⟩⟩, q⟩
/-- a for over things: the invariant by the turn -/
theorem ws_for {t : Tg} {it : Ex} {b : St} (I : Nat → Env → MH → Prop) {l : List D} {w : D} {h1 : MH} (ei : ev call it σ h = .ok (w, h1)) (ew : itrOf w h1 = some (.things l)) (h0 : I 0 σ h1)
    (step : ∀ i x σ h, l[i]? = some x → I i σ h → ∃ σ2, asgD t x σ = some σ2 ∧ Ws call b σ2 h fun f σ' h' => match f with
      | .nx => I (i + 1) σ' h'
      | .ct => I (i + 1) σ' h'
      | .bk => Q .nx σ' h'
      | .rt d => Q (.rt d) σ' h')
    (fin : ∀ σ h, I l.length σ h → Q .nx σ h) : Ws call (.forr t it b) σ h Q := by
  have go : ∀ (xs : List D) (n : Nat) (σ : Env) (h : MH), n + xs.length = l.length → (∀ i, xs[i]? = l[n + i]?) → I n σ h → ∃ f σ' h', forL (fun x σ1 h2 => opt (asgD t x σ1) fun σ2 => exec call b σ2 h2) xs σ h = .ok ((f, σ'), h') ∧ Q f σ' h' := by
    intro xs
    induction xs with
    | nil =>
      intro n σ h hn _ i0
      have : n = l.length := by simpa using hn
      subst this
      exact ⟨_, _, _, rfl, fin _ _ i0⟩
    | cons x xs ih =>
      intro n σ h hn hx i0
      obtain ⟨σ2, ea, f, σ', h', eb, q⟩ := step n x σ h (by have := hx 0; simpa using this.symm) i0
      have e : (opt (asgD t x σ) fun σ2 => exec call b σ2 h) = .ok ((f, σ'), h') := by rw [ea, opt_some]; exact eb
      have next := ih (n + 1) σ' h' (by rw [List.length_cons] at hn; omega) fun i => by
        have := hx (i + 1)
        rw [List.getElem?_cons_succ] at this
        rw [this]; congr 1; omega
      unfold forL
      cases f with
      | nx => obtain ⟨f2, σ3, h3, e2, q2⟩ := next q; exact ⟨f2, σ3, h3, bnd_eq.mpr ⟨_, _, e, e2⟩, q2⟩
      | ct => obtain ⟨f2, σ3, h3, e2, q2⟩ := next q; exact ⟨f2, σ3, h3, bnd_eq.mpr ⟨_, _, e, e2⟩, q2⟩
      | bk => exact ⟨_, _, _, bnd_eq.mpr ⟨_, _, e, rfl⟩, q⟩
      | rt d => exact ⟨_, _, _, bnd_eq.mpr ⟨_, _, e, rfl⟩, q⟩
  obtain ⟨f, σ', h', e, q⟩ := go l 0 σ h1 (by simp) (fun i => by rw [Nat.zero_add]) h0
  refine ⟨f, σ', h', bnd_eq.mpr ⟨_, _, ei, ?_⟩, q⟩
  rw [ew]
  exact e
/-- a while: the invariant with a measure -/
theorem ws_whil {c : Ex} {b : St} (I : Nat → Env → MH → Prop) (n : Nat) (hn : n < wfuel) (h0 : I n σ h)
    (step : ∀ m σ h, I m σ h → We call c σ h fun x h1 => ∃ t, truD (deref h1 x) = some t ∧ if t = true then 0 < m ∧ Ws call b σ h1 fun f σ' h' => match f with
      | .nx => I (m - 1) σ' h'
      | .ct => I (m - 1) σ' h'
      | .bk => Q .nx σ' h'
      | .rt d => Q (.rt d) σ' h'
      else Q .nx σ h1) : Ws call (.whil c b) σ h Q := by
  have go : ∀ (k m : Nat) (σ : Env) (h : MH), m < k → I m σ h → ∃ f σ' h', whlN (fun σ1 h1 => bnd (ev call c σ1 h1) fun x h2 => opt (truD (deref h2 x)) fun t => .ok (t, h2)) (fun σ1 h1 => exec call b σ1 h1) k σ h = .ok ((f, σ'), h') ∧ Q f σ' h' := by
    intro k
    induction k with
    | zero => intro m σ h hm; omega
    | succ k ih =>
      intro m σ h hm i0
      obtain ⟨x, h1, e1, t, e2, q⟩ := step m σ h i0
      have ec : (bnd (ev call c σ h) fun x h2 => opt (truD (deref h2 x)) fun t => (.ok (t, h2) : R (Bool × MH))) = .ok (t, h1) := bnd_eq.mpr ⟨_, _, e1, opt_eq.mpr ⟨_, e2, rfl⟩⟩
      unfold whlN
      cases t with
      | false => exact ⟨_, _, _, bnd_eq.mpr ⟨_, _, ec, rfl⟩, q⟩
      | true =>
        obtain ⟨hp, f, σ', h', eb, q⟩ := q
        have next : I (m - 1) σ' h' → _ := ih (m - 1) σ' h' (by omega)
        cases f with
        | nx => obtain ⟨f2, σ3, h3, e3, q2⟩ := next q; exact ⟨f2, σ3, h3, bnd_eq.mpr ⟨_, _, ec, bnd_eq.mpr ⟨_, _, eb, e3⟩⟩, q2⟩
        | ct => obtain ⟨f2, σ3, h3, e3, q2⟩ := next q; exact ⟨f2, σ3, h3, bnd_eq.mpr ⟨_, _, ec, bnd_eq.mpr ⟨_, _, eb, e3⟩⟩, q2⟩
        | bk => exact ⟨_, _, _, bnd_eq.mpr ⟨_, _, ec, bnd_eq.mpr ⟨_, _, eb, rfl⟩⟩, q⟩
        | rt d => exact ⟨_, _, _, bnd_eq.mpr ⟨_, _, ec, bnd_eq.mpr ⟨_, _, eb, rfl⟩⟩, q⟩
  obtain ⟨f, σ', h', e, q⟩ := go wfuel n σ h hn h0
  exact ⟨f, σ', h', e, q⟩
end
/-! #### defs -/
/-- behind a call -/
def Wf (mv : Bool) (n : Nat) (Q : D → MH → Prop) (f : Fl) (σ : Env) (h : MH) : Prop :=
  match f with
  | .rt d => Wr (finish mv n d h) Q
  | .nx => Wr (finish mv n .non h) Q
  | _ => False
theorem wf_rt {mv : Bool} {n : Nat} {Q : D → MH → Prop} {d : D} {σ : Env} {h : MH} : Wf mv n Q (.rt d) σ h ↔ Wr (finish mv n d h) Q := Iff.rfl
theorem wf_nx {mv : Bool} {n : Nat} {Q : D → MH → Prop} {σ : Env} {h : MH} : Wf mv n Q .nx σ h ↔ Wr (finish mv n .non h) Q := Iff.rfl
def endF (mv : Bool) (n : Nat) (f : Fl) (h : MH) : R (D × MH) :=
  match f with
  | .rt d => finish mv n d h
  | .nx => finish mv n .non h
  | _ => .error .stuck
theorem callF_at {P : List Fn} {k f : Nat} {fn : Fn} {args : List D} {h : MH} (hf : P[f]? = some fn) (hl : args.length = fn.ps) :
    callF P (k + 1) f args h = bnd (exec (callF P k) fn.body (args.map some ++ List.replicate (fn.n - fn.ps) none) h) fun p h1 => endF fn.mv h.length p.1 h1 := by
  show (match P[f]? with
    | none => (.error .stuck : R (D × MH))
    | some fn => grd (decide (args.length = fn.ps)) (bnd (exec (callF P k) fn.body (args.map some ++ List.replicate (fn.n - fn.ps) none) h) fun p h1 => match p.1 with
      | .rt d => finish fn.mv h.length d h1
      | .nx => finish fn.mv h.length .non h1
      | _ => .error .stuck)) = _
  rw [hf]
  show grd (decide (args.length = fn.ps)) _ = _
  rw [decide_eq_true hl, grd_true]
  rfl
theorem wc_at {P : List Fn} {k f : Nat} {fn : Fn} {args : List D} {h : MH} {Q : D → MH → Prop} (hf : P[f]? = some fn) (hl : args.length = fn.ps)
    (w : Ws (callF P k) fn.body (args.map some ++ List.replicate (fn.n - fn.ps) none) h (Wf fn.mv h.length Q)) : Wc (callF P (k + 1)) f args h Q := by
  obtain ⟨fl, σ', h', e, q⟩ := w
  show Wr (callF P (k + 1) f args h) Q
  rw [callF_at hf hl, e, bnd_ok]
  cases fl with
  | rt d => exact q
  | nx => exact q
  | _ => exact q.elim
theorem wr_fin {mv : Bool} {d : D} {h h1 : MH} {Q : D → MH → Prop} (ok : d.okR h.length = true) (e : h1.take h.length = h) (q : Q d h) : Wr (finish mv h.length d h1) Q := by
  unfold finish
  rw [if_pos ok, e]
  exact wr_ok.mpr q
theorem take_self {h : MH} : h.take h.length = h := List.take_length
theorem take_app {h r : MH} : (h ++ r).take h.length = h := List.take_left
theorem divOk_log {i j : Int} (h : 0 < j) (h2 : j.natAbs.log2 < 9000) : divOk i j = true := by
  unfold divOk
  rw [decide_eq_true h, PyProof.noPylong_of_log2 h2]
  rfl
theorem divOk_lt {i j : Int} {n : Nat} (h : 0 < j) (h2 : j < 2 ^ n) (hn : n ≤ 9000) : divOk i j = true := by
  refine divOk_log h ?_
  have h3 : j.natAbs < 2 ^ n := by
    have e : (j.natAbs : Int) = j := by omega
    have : ((j.natAbs : Nat) : Int) < ((2 ^ n : Nat) : Int) := by rw [e]; simpa using h2
    exact Int.ofNat_lt.mp this
  exact Nat.lt_of_lt_of_le ((Nat.log2_lt (by omega)).mpr h3) hn
theorem deref_int {h : MH} {i : Int} : deref h (.int i) = .int i := rfl
theorem deref_str {h : MH} {i : PySem.Str} : deref h (.str i) = .str i := rfl
theorem deref_bl {h : MH} {i : Bool} : deref h (.bl i) = .bl i := rfl
theorem deref_non {h : MH} : deref h .non = .non := rfl
theorem deref_tup {h : MH} {l : List D} : deref h (.tup l) = .tup l := rfl
theorem deref_lst {h : MH} {l : List D} : deref h (.lst l) = .lst l := rfl
theorem deref_scr {h : MH} {l : List D} : deref h (.scr l) = .scr l := rfl
theorem deref_fn {h : MH} {i : Nat} : deref h (.fn i) = .fn i := rfl
theorem deref_dK {h : MH} {ks : List L2.Key} {l : List D} : deref h (.dK ks l) = .dK ks l := rfl
theorem deref_dT {h : MH} {ks : List (List L2.Key)} {l : List D} : deref h (.dT ks l) = .dT ks l := rfl
theorem deref_ref {h : MH} {i : Nat} {d : D} (e : h[i]? = some d) (io : isObj d = true) : deref h (.ref i) = d := by
  show (match h[i]? with | some d => if isObj d = true then d else D.ref i | none => .ref i) = _
  rw [e]
  exact if_pos io
theorem mulOk_l {i j : Int} (h1 : -(2 ^ 64) < i) (h2 : i < 2 ^ 64) : mulOk i j = true := by
  unfold mulOk
  rw [decide_eq_true h1, decide_eq_true h2]
  rfl
theorem mulOk_r {i j : Int} (h1 : -(2 ^ 64) < j) (h2 : j < 2 ^ 64) : mulOk i j = true := by
  unfold mulOk
  rw [decide_eq_true h1, decide_eq_true h2]
  simp
theorem mulOk_2 {j : Int} : mulOk 2 j = true := mulOk_l (by decide) (by decide)
theorem mulOk_b {i j : Int} {m n : Nat} (h1 : i.natAbs < 2 ^ m) (h2 : j.natAbs < 2 ^ n) (hm : m ≤ 1048576) (hn : n ≤ 1048576) : mulOk i j = true := by
  unfold mulOk
  have e : (2 : Nat) ^ 20 = 1048576 := by decide
  rw [decide_eq_true (p := PySem.Builtin.Int.intBits i ≤ 2 ^ 20) (by rw [e]; exact Nat.le_trans (PyProof.Rows.intBits_le h1) hm), decide_eq_true (p := PySem.Builtin.Int.intBits j ≤ 2 ^ 20) (by rw [e]; exact Nat.le_trans (PyProof.Rows.intBits_le h2) hn)]
  simp
/-- the things that a for or a comprehension walks, where the heap does not matter -/
theorem itr_tup {l : List D} {h : MH} : itrOf (.tup l) h = some (.things l) := rfl
theorem itr_lst {l : List D} {h : MH} : itrOf (.lst l) h = some (.things l) := rfl
/-- a comprehension over things -/
theorem we_lcI {call : Caller} {σ : Env} {h : MH} {Q : D → MH → Prop} {m : Bool} {own : List Nat} {t : Tg} {it c e : Ex} (I : Nat → List D → MH → Prop)
    (w : We call it σ h fun w h1 => ∃ l, itrOf w h1 = some (.things l) ∧ l.length ≤ szL ∧ I 0 [] h1 ∧
      (∀ i x acc h2, l[i]? = some x → I i acc h2 → ∃ σ1, asgD t x (wipeD σ own) = some σ1 ∧ We call c σ1 h2 fun b h3 => ∃ u, truD (deref h3 b) = some u ∧ if u = true then We call e σ1 h3 fun d h4 => I (i + 1) (acc ++ [d]) h4 else I (i + 1) acc h3) ∧
      ∀ L h2, I l.length L h2 → if m = true then Q (.ref h2.length) (h2 ++ [.lst L]) else Q (.lst L) h2) : We call (.lc m own t it c e) σ h Q := by
  refine we_lc.mpr (w.mono fun d h1 w => ?_)
  obtain ⟨l, e1, e2, i0, step, fin⟩ := w
  have go : ∀ (xs : List D) (n : Nat) (acc : List D) (h : MH), n + xs.length = l.length → (∀ i, xs[i]? = l[n + i]?) → I n acc h →
      ∃ L h2, lcL (fun x h2 => opt (asgD t x (wipeD σ own)) fun σ1 => bnd (ev call c σ1 h2) fun b h3 => opt (truD (deref h3 b)) fun u => if u then bnd (ev call e σ1 h3) fun d h4 => .ok (some d, h4) else .ok (none, h3)) xs h = .ok (L, h2) ∧ I l.length (acc ++ L) h2 := by
    intro xs
    induction xs with
    | nil =>
      intro n acc h hn _ i0
      have : n = l.length := by simpa using hn
      subst this
      exact ⟨[], h, rfl, by rw [List.append_nil]; exact i0⟩
    | cons x xs ih =>
      intro n acc h hn hx i0
      obtain ⟨σ1, ea, b, h3, eb, u, eu, q⟩ := step n x acc h (by have := hx 0; simpa using this.symm) i0
      have hn' : (n + 1) + xs.length = l.length := by rw [List.length_cons] at hn; omega
      have hx' : ∀ i, xs[i]? = l[n + 1 + i]? := fun i => by
        have := hx (i + 1)
        rw [List.getElem?_cons_succ] at this
        rw [this]; congr 1; omega
      unfold lcL
      cases u with
      | true =>
        obtain ⟨d, h4, ed, q⟩ := (show We call e σ1 h3 fun d h4 => I (n + 1) (acc ++ [d]) h4 from q)
        obtain ⟨L, h5, eL, iL⟩ := ih (n + 1) (acc ++ [d]) h4 hn' hx' q
        refine ⟨d :: L, h5, bnd_eq.mpr ⟨some d, h4, ?_, bnd_eq.mpr ⟨L, h5, eL, rfl⟩⟩, by rw [List.append_assoc] at iL; exact iL⟩
        rw [ea, opt_some]
        exact bnd_eq.mpr ⟨_, _, eb, opt_eq.mpr ⟨true, eu, bnd_eq.mpr ⟨_, _, ed, rfl⟩⟩⟩
      | false =>
        obtain ⟨L, h5, eL, iL⟩ := ih (n + 1) acc h3 hn' hx' q
        refine ⟨L, h5, bnd_eq.mpr ⟨none, h3, ?_, bnd_eq.mpr ⟨L, h5, eL, rfl⟩⟩, iL⟩
        rw [ea, opt_some]
        exact bnd_eq.mpr ⟨_, _, eb, opt_eq.mpr ⟨false, eu, rfl⟩⟩
  obtain ⟨L, h2, eL, iL⟩ := go l 0 [] h1 (by simp) (fun i => by rw [Nat.zero_add]) i0
  refine ⟨L, h2, ?_, fin L h2 iL⟩
  rw [e1]
  show grd (decide (l.length ≤ szL)) _ = _
  rw [decide_eq_true e2, grd_true]
  exact eL
theorem wc_of {call : Caller} {f : Nat} {l : List D} {h h' : MH} {d : D} {Q : D → MH → Prop} (e : call f l h = .ok (d, h')) (q : Q d h') : Wc call f l h Q := ⟨d, h', e, q⟩
/-! #### the operations, by form -/
section
variable {i j : Int} {x y : PySem.Str} {l r : List D} {a b : Bool} {d e : D} {ks : List L2.Key} {kt : List (List L2.Key)}
theorem bin_add : binD .add (.int i) (.int j) = some (.int (i + j)) := rfl
theorem bin_addS : binD .add (.str x) (.str y) = if x.length + y.length ≤ szL then some (.str (x ++ y)) else none := rfl
theorem bin_addT : binD .add (.tup l) (.tup r) = if l.length + r.length ≤ szL then some (.tup (l ++ r)) else none := rfl
theorem bin_addL : binD .add (.lst l) (.lst r) = if l.length + r.length ≤ szL then some (.lst (l ++ r)) else none := rfl
theorem bin_sub : binD .sub (.int i) (.int j) = some (.int (i - j)) := rfl
theorem bin_mul : binD .mul (.int i) (.int j) = if mulOk i j = true then some (.int (i * j)) else none := rfl
theorem bin_mulL : binD .mul (.lst l) (.int j) = if decide (-(2 ^ 63) ≤ j) && decide (j < 2 ^ 63) && decide (l.length * j.toNat ≤ szL) then some (.lst (List.replicate j.toNat l).flatten) else none := rfl
theorem bin_mulT : binD .mul (.tup l) (.int j) = if decide (2 ≤ j) && decide (j ≤ 1000) && decide (l.length ≤ 1000) && !l.isEmpty then some (.tup (List.replicate j.toNat l).flatten) else none := rfl
theorem bin_fdiv : binD .fdiv (.int i) (.int j) = if divOk i j = true then some (.int (i / j)) else none := rfl
theorem bin_mod : binD .mod (.int i) (.int j) = if 0 < j then some (.int (i % j)) else none := by
  show (if decide (0 < j) = true then _ else _) = _
  simp
theorem bin_pow : binD .pow (.int i) (.int j) = if powOk i j = true then some (.int (i ^ j.toNat)) else none := rfl
theorem cmp_eq : cmpD .eq d e = eqD d e := by cases d <;> rfl
theorem cmp_ne : cmpD .ne d e = (eqD d e).map (!·) := by cases d <;> rfl
theorem cmp_lt : cmpD .lt (.int i) (.int j) = some (decide (i < j)) := rfl
theorem cmp_le : cmpD .le (.int i) (.int j) = some (decide (i ≤ j)) := rfl
theorem cmp_gt : cmpD .gt (.int i) (.int j) = some (decide (j < i)) := rfl
theorem cmp_ge : cmpD .ge (.int i) (.int j) = some (decide (j ≤ i)) := rfl
theorem cmp_isB : cmpD .is (.bl a) (.bl b) = some (decide (a = b)) := rfl
theorem cmp_isnotB : cmpD .isnot (.bl a) (.bl b) = some (!decide (a = b)) := rfl
theorem cmp_is : cmpD .is d .non = some (isNon d) := by cases d <;> rfl
theorem cmp_isnot : cmpD .isnot d .non = some (!isNon d) := by cases d <;> rfl
theorem cmp_inn : cmpD .inn d e = inD d e := by cases d <;> rfl
theorem cmp_notin : cmpD .notin d e = (inD d e).map (!·) := by cases d <;> rfl
theorem eq_int : eqD (.int i) (.int j) = some (decide (i = j)) := rfl
theorem eq_str : eqD (.str x) (.str y) = some (decide (x = y)) := rfl
theorem eq_bl : eqD (.bl a) (.bl b) = some (decide (a = b)) := rfl
theorem tru_non : truD .non = some false := rfl
theorem tru_bl : truD (.bl a) = some a := rfl
theorem tru_int : truD (.int i) = some (i != 0) := rfl
theorem tru_tup : truD (.tup l) = some (!l.isEmpty) := rfl
theorem tru_lst : truD (.lst l) = some (!l.isEmpty) := rfl
theorem tru_dK : truD (.dK ks l) = some (!ks.isEmpty) := rfl
theorem ix_tup : ixD (.tup l) (.int i) = atD l i := rfl
theorem ix_lst : ixD (.lst l) (.int i) = atD l i := rfl
theorem ix_dK : ixD (.dK ks l) d = (getKD (.dK ks l) d).bind id := rfl
theorem ix_dT : ixD (.dT kt l) d = (getKD (.dT kt l) d).bind id := rfl
theorem bi_lenT : biD .len [.tup l] = some (.int l.length) := rfl
theorem bi_lenL : biD .len [.lst l] = some (.int l.length) := rfl
theorem bi_lenS : biD .len [.scr l] = some (.int l.length) := rfl
theorem bi_int : biD .int [.int i] = some (.int i) := rfl
theorem bi_intB : biD .int [.bl a] = some (.int (if a then 1 else 0)) := rfl
theorem bi_tupT : biD .tuple [.tup l] = some (.tup l) := rfl
theorem bi_tupL : biD .tuple [.lst l] = some (.tup l) := rfl
theorem bi_lisT : biD .list [.tup l] = some (.lst l) := rfl
theorem bi_lisL : biD .list [.lst l] = some (.lst l) := rfl
theorem bi_repr : biD .repr [d] = reprD d := rfl
theorem bi_all : biD .all [.lst l] = (allB l).map fun bs => .bl (bs.all id) := rfl
theorem bi_any : biD .any [.lst l] = (allB l).map fun bs => .bl (bs.any id) := rfl
theorem bi_sum : biD .sum [.lst l] = (allI l).map fun ns => .int ns.sum := rfl
theorem bi_max : biD .max [.int i, .int j] = some (.int (if j > i then j else i)) := rfl
theorem bi_min : biD .min [.int i, .int j] = some (.int (if j < i then j else i)) := rfl
theorem bi_abs : biD .abs [.int i] = some (.int (if i < 0 then -i else i)) := rfl
theorem bi_gcd : biD .gcd [.int i, .int j] = some (.int (Int.gcd i j)) := rfl
end
/-! #### dicts, slices, methods, by form -/
section
variable {i j : Int} {n : Nat} {x y : PySem.Str} {l r v : List D} {d e w : D} {ks : List L2.Key} {kt : List (List L2.Key)} {h : MH} {lo hi : Option Int}
theorem in_lst : inD d (.lst l) = anyEq d l := rfl
theorem in_tup : inD d (.tup l) = anyEq d l := rfl
theorem in_dK : inD d (.dK ks l) = (getKD (.dK ks l) d).map (·.isSome) := rfl
theorem in_dT : inD d (.dT kt l) = (getKD (.dT kt l) d).map (·.isSome) := rfl
theorem get_dKi : getKD (.dK ks l) (.int i) = some (lkD ks l (.inl i)) := rfl
theorem get_dKs : getKD (.dK ks l) (.str x) = some (lkD ks l (.inr x)) := rfl
theorem get_dTt : getKD (.dT kt l) (.tup r) = (keyDs r).map fun x => lkD kt l x := rfl
theorem put_dKi : putD (.dK ks l) (.int i) w = if ks.length < szL then some (.dK (putKs ks (.inl i)) (putVs ks l (.inl i) w)) else none := rfl
theorem put_dKs : putD (.dK ks l) (.str x) w = if ks.length < szL then some (.dK (putKs ks (.inr x)) (putVs ks l (.inr x) w)) else none := rfl
theorem put_dTt : putD (.dT kt l) (.tup r) w = if kt.length < szL then (keyDs r).map (fun x => .dT (putKs kt x) (putVs kt l x w)) else none := rfl
theorem put_lst : putD (.lst l) (.int i) w = (L2.ixN l.length i).map fun j => .lst (l.set j w) := rfl
theorem key_int : keyD (.int i) = some (.inl i) := rfl
theorem key_str : keyD (.str x) = some (.inr x) := rfl
theorem keys_nil : keyDs [] = some [] := rfl
theorem keys_cons : keyDs (d :: l) = (keyD d).bind fun k => (keyDs l).map fun ks => k :: ks := rfl
theorem slc_tup : slcD (.tup l) lo hi = some (.tup (cutD l lo hi)) := rfl
theorem slc_lst : slcD (.lst l) lo hi = some (.lst (cutD l lo hi)) := rfl
theorem slc_scr : slcD (.scr l) lo hi = some (.lst (cutD l lo hi)) := rfl
theorem end_t : endD true .non = some none := rfl
theorem end_f : endD false (.int i) = some (some i) := rfl
theorem me_app (e : h[n]? = some (.lst v)) : meR .append (.ref n) [d] h = grd (decide (v.length < szL) && d.okR n) (.ok (.non, h.set n (.lst (v ++ [d])))) := by
  show (match h[n]? with
    | some (.lst v) => grd (decide (v.length < szL) && d.okR n) (.ok (D.non, h.set n (.lst (v ++ [d]))))
    | _ => (.error .stuck : R (D × MH))) = _
  rw [e]
theorem me_pop {x : D} (e : h[n]? = some (.lst (v ++ [x]))) : meR .pop (.ref n) [] h = .ok (x, h.set n (.lst v)) := by
  show (match h[n]? with
    | some (.lst v) => opt v[v.length - 1]? fun d => .ok (d, h.set n (.lst v.dropLast))
    | _ => (.error .stuck : R (D × MH))) = _
  rw [e]
  show opt (v ++ [x])[(v ++ [x]).length - 1]? _ = _
  have e1 : (v ++ [x])[(v ++ [x]).length - 1]? = some x := by
    rw [List.length_append, List.length_singleton, Nat.add_sub_cancel, List.getElem?_append_right (Nat.le_refl _)]; simp
  rw [e1, opt_some, List.dropLast_concat]
theorem me_ext (e : h[n]? = some (.lst v)) : meR .extend (.ref n) [d] h = opt (things (deref h d)) fun r => grd (decide (v.length + r.length ≤ szL) && D.okRs n r) (.ok (.non, h.set n (.lst (v ++ r)))) := by
  show (match h[n]? with
    | some (.lst v) => opt (things (deref h d)) fun r => grd (decide (v.length + r.length ≤ szL) && D.okRs n r) (.ok (D.non, h.set n (.lst (v ++ r))))
    | _ => (.error .stuck : R (D × MH))) = _
  rw [e]
theorem ty_app : meTy .append (.lst l) = true := rfl
theorem ty_pop : meTy .pop (.lst l) = true := rfl
theorem ty_ext : meTy .extend (.lst l) = true := rfl
theorem ty_getK : meTy .get (.dK ks l) = true := rfl
theorem ty_getT : meTy .get (.dT kt l) = true := rfl
theorem ok_int : D.okR n (.int i) = true := rfl
theorem ok_str : D.okR n (.str x) = true := rfl
theorem ok_non : D.okR n .non = true := rfl
theorem cut_lo (l : List D) (j : Nat) (h : j ≤ l.length) : cutD l none (some (j : Int)) = l.take j := by
  unfold cutD
  rw [HT.sIx_none, HT.sIx_nat, Nat.min_eq_left h]
  simp
theorem cut_hi (l : List D) (j : Nat) (h : j ≤ l.length) : cutD l (some (j : Int)) none = l.drop j := by
  unfold cutD
  rw [HT.sIx_none, HT.sIx_nat, Nat.min_eq_left h]
  rw [List.take_of_length_le (by rw [List.length_drop]; exact Nat.le_refl _)]
end
section
variable {κ : Type} [DecidableEq κ]
theorem lk_none : ∀ {ks : List κ} {vs : List D} {x : κ}, x ∉ ks → lkD ks vs x = none
  | [], _, _, _ => by unfold lkD; rfl
  | k :: ks, [], _, _ => by unfold lkD; rfl
  | k :: ks, v :: vs, x, h => by
    unfold lkD
    rw [if_neg (fun e => h (by rw [e]; exact List.mem_cons_self))]
    exact lk_none fun q => h (List.mem_cons_of_mem _ q)
theorem lk_at : ∀ {ks : List κ} {vs : List D} {x : κ} {j : Nat} {v : D}, ks.Nodup → ks[j]? = some x → vs[j]? = some v → lkD ks vs x = some v
  | [], _, _, _, _, _, h, _ => by simp at h
  | k :: ks, [], _, _, _, _, _, h => by simp at h
  | k :: ks, v :: vs, x, 0, w, nd, h1, h2 => by
    unfold lkD
    rw [if_pos (by simpa using h1)]
    simpa using h2
  | k :: ks, v :: vs, x, j + 1, w, nd, h1, h2 => by
    have h1' : ks[j]? = some x := by simpa using h1
    unfold lkD
    rw [if_neg (fun e => (List.nodup_cons.mp nd).1 (by rw [e]; exact List.mem_of_getElem? h1'))]
    exact lk_at (List.nodup_cons.mp nd).2 h1' (by simpa using h2)
theorem put_newK {ks : List κ} {x : κ} (h : x ∉ ks) : putKs ks x = ks ++ [x] := by
  unfold putKs
  rw [if_neg h]
theorem put_newV {ks : List κ} {vs : List D} {x : κ} {w : D} (h : x ∉ ks) : putVs ks vs x w = vs ++ [w] := by
  unfold putVs
  rw [if_neg h]
end
theorem get_a {h : MH} {a b : D} : (h ++ [a, b])[h.length]? = some a := by rw [List.getElem?_append_right (Nat.le_refl _)]; simp
theorem get_b {h : MH} {a b : D} : (h ++ [a, b])[h.length + 1]? = some b := by rw [List.getElem?_append_right (by omega)]; simp
theorem set_a {h : MH} {a b c : D} : (h ++ [a, b]).set h.length c = h ++ [c, b] := by rw [List.set_append_right _ _ (Nat.le_refl _)]; simp
theorem set_b {h : MH} {a b c : D} : (h ++ [a, b]).set (h.length + 1) c = h ++ [a, c] := by rw [List.set_append_right _ _ (by omega)]; simp
theorem get_o {h : MH} {a : D} : (h ++ [a])[h.length]? = some a := by rw [List.getElem?_append_right (Nat.le_refl _)]; simp
theorem set_o {h : MH} {a c : D} : (h ++ [a]).set h.length c = h ++ [c] := by rw [List.set_append_right _ _ (Nat.le_refl _)]; simp
theorem at_nat {l : List D} {j : Nat} {d : D} (h : l[j]? = some d) : atD l (j : Int) = some d := L2.atI_nat h
theorem at_0 {a : D} {l : List D} : atD (a :: l) 0 = some a := at_nat (j := 0) rfl
theorem at_1 {a b : D} {l : List D} : atD (a :: b :: l) 1 = some b := at_nat (j := 1) rfl
theorem at_2 {a b c : D} {l : List D} : atD (a :: b :: c :: l) 2 = some c := at_nat (j := 2) rfl
theorem at_3 {a b c d : D} {l : List D} : atD (a :: b :: c :: d :: l) 3 = some d := at_nat (j := 3) rfl
theorem wr_fin2 {mv : Bool} {n : Nat} {d : D} {h1 h2 : MH} {Q : D → MH → Prop} (ok : d.okR n = true) (e : h1.take n = h2) (q : Q d h2) : Wr (finish mv n d h1) Q := by
  unfold finish
  rw [if_pos ok, e]
  exact wr_ok.mpr q
theorem take_set {h : MH} {i : Nat} {d : D} : (h.set i d).take h.length = h.set i d := List.take_of_length_le (by rw [List.length_set]; exact Nat.le_refl _)
/-! #### the law's own source of numbers -/
def keysM : List L2.Key := [.inr "left", .inr "seed", .inr "cells", .inr "spot"]
def machD (left seed : Int) (cells : List Int) (spot : Int) : D := .dK keysM [.int left, .int seed, .lst (cells.map .int), .int spot]
/-- at most b times asked -/
def Mach (b : Nat) (d : D) : Prop := ∃ (left seed : Int) (cells : List Int) (spot : Nat), d = machD left seed cells spot ∧ cells ≠ [] ∧ spot ≤ b
theorem Mach.obj {b : Nat} {d : D} (m : Mach b d) : isObj d = true := by obtain ⟨_, _, _, _, rfl, _⟩ := m; rfl
theorem Mach.ok {b : Nat} {d : D} (m : Mach b d) (n : Nat) : d.okR n = true := by
  obtain ⟨left, seed, cells, spot, rfl, _⟩ := m
  have : ∀ l : List Int, D.okRs n (l.map .int) = true := fun l => by
    induction l with
    | nil => rfl
    | cons x l ih =>
      show (true && D.okRs n (l.map .int)) = true
      rw [ih]; rfl
  show (true && (true && (D.okR n (.lst (cells.map .int)) && (true && true)))) = true
  rw [show D.okR n (.lst (cells.map .int)) = true by unfold D.okR; exact this cells]
  rfl
theorem Mach.mono {b c : Nat} {d : D} (m : Mach b d) (h : b ≤ c) : Mach c d := by
  obtain ⟨left, seed, cells, spot, e, n, z⟩ := m
  exact ⟨left, seed, cells, spot, e, n, Nat.le_trans z h⟩
section
variable {a b c d w : D}
theorem ne_key {x y : PySem.Str} (h : x ≠ y) : (Sum.inr x : L2.Key) ≠ .inr y := fun e => h (by cases e; rfl)
theorem kn1 : (Sum.inr "left" : L2.Key) ≠ .inr "seed" := ne_key (by decide +kernel)
theorem kn2 : (Sum.inr "left" : L2.Key) ≠ .inr "cells" := ne_key (by decide +kernel)
theorem kn3 : (Sum.inr "left" : L2.Key) ≠ .inr "spot" := ne_key (by decide +kernel)
theorem kn4 : (Sum.inr "seed" : L2.Key) ≠ .inr "cells" := ne_key (by decide +kernel)
theorem kn5 : (Sum.inr "seed" : L2.Key) ≠ .inr "spot" := ne_key (by decide +kernel)
theorem kn6 : (Sum.inr "cells" : L2.Key) ≠ .inr "spot" := ne_key (by decide +kernel)
theorem keysM_nd : keysM.Nodup := by decide +kernel
theorem lk_left : lkD keysM [a, b, c, d] (.inr "left") = some a := lk_at (j := 0) keysM_nd rfl rfl
theorem lk_seed : lkD keysM [a, b, c, d] (.inr "seed") = some b := lk_at (j := 1) keysM_nd rfl rfl
theorem lk_cells : lkD keysM [a, b, c, d] (.inr "cells") = some c := lk_at (j := 2) keysM_nd rfl rfl
theorem lk_spot : lkD keysM [a, b, c, d] (.inr "spot") = some d := lk_at (j := 3) keysM_nd rfl rfl
theorem setD_yes {κ : Type} [DecidableEq κ] {k x : κ} {ks : List κ} {v : D} {vs : List D} {w : D} (h : k = x) : setD (k :: ks) (v :: vs) x w = w :: setD ks vs x w := by
  show (if k = x then _ else _) = _
  rw [if_pos h]
theorem setD_no {κ : Type} [DecidableEq κ] {k x : κ} {ks : List κ} {v : D} {vs : List D} {w : D} (h : k ≠ x) : setD (k :: ks) (v :: vs) x w = v :: setD ks vs x w := by
  show (if k = x then _ else _) = _
  rw [if_neg h]
theorem setD_nil {κ : Type} [DecidableEq κ] {x : κ} {vs : List D} {w : D} : setD [] vs x w = vs := by unfold setD; rfl
theorem memL : (Sum.inr "left" : L2.Key) ∈ keysM := List.mem_of_getElem? (i := 0) rfl
theorem memS : (Sum.inr "spot" : L2.Key) ∈ keysM := List.mem_of_getElem? (i := 3) rfl
theorem pk_left : putKs keysM (.inr "left") = keysM := if_pos memL
theorem pk_spot : putKs keysM (.inr "spot") = keysM := if_pos memS
theorem pv_left : putVs keysM [a, b, c, d] (.inr "left") w = [w, b, c, d] := by
  unfold putVs
  rw [if_pos memL]
  unfold keysM
  rw [setD_yes rfl, setD_no kn1.symm, setD_no kn2.symm, setD_no kn3.symm, setD_nil]
theorem pv_spot : putVs keysM [a, b, c, d] (.inr "spot") w = [a, b, c, w] := by
  unfold putVs
  rw [if_pos memS]
  unfold keysM
  rw [setD_no kn3, setD_no kn5, setD_no kn6, setD_yes rfl, setD_nil]
theorem kM_len : keysM.length < szL := by decide
end
end Mi
/-! Mi: repr and == of data. -/
namespace Mi
open PySem (PyData Str)
mutual
/-- how long a text may be -/
def szP : PyData → Nat
  | .none => 4
  | .bool _ => 5
  | .int i => i.natAbs + 2
  | .str x => (PySem.PyData.shown (.str x)).length
  | .list xs => szPs xs + 3
  | .tuple xs => szPs xs + 5
  | .dict _ => 0
def szPs : List PyData → Nat
  | [] => 0
  | x :: r => szP x + 2 + szPs r
end
theorem tuple_le : ∀ ts : List Str, (PySem.tupleText ts).length ≤ PySem.piled ts + 3
  | [] => by decide +kernel
  | x :: ts => by
    have h := PySem.join_length_add (x :: ts) (by simp)
    show ((("(" : Str) ++ Str.join ", " (x :: ts)) ++ _).length ≤ _
    rw [PySem.strLen_append, PySem.strLen_append]
    have e1 : (("(" : String) : Str).length = 1 := by decide +kernel
    have e2 : ((if (x :: ts).length == 1 then ",)" else ")" : String) : Str).length ≤ 2 := by split <;> decide +kernel
    omega
theorem piled_le : ∀ ts : List Str, PySem.piled ts = (ts.map (·.length)).sum + 2 * ts.length
  | [] => rfl
  | x :: ts => by
    rw [PySem.piled_cons, piled_le ts, List.map_cons, List.sum_cons, List.length_cons]
    omega
mutual
theorem shown_le : ∀ p : PyData, p.canLay0 = true → p.shown.length ≤ szP p
  | .none, _ => by unfold PySem.PyData.shown szP; decide +kernel
  | .bool b, _ => by unfold PySem.PyData.shown szP; cases b <;> decide +kernel
  | .int i, _ => by
    have := PyProof.Rows.len_str_of_int i
    unfold PySem.PyData.shown szP
    omega
  | .str x, _ => by unfold szP; exact Nat.le_refl _
  | .list xs, h => by
    have h' : PySem.PyData.canLayAll0 xs = true := by unfold PySem.PyData.canLay0 at h; exact h
    have h1 := shown_les xs h'
    have h2 := PySem.listText_len_le (PySem.PyData.shownAll xs)
    rw [← piled_le] at *
    unfold PySem.PyData.shown szP
    have h3 := piled_le (PySem.PyData.shownAll xs)
    omega
  | .tuple xs, h => by
    have h' : PySem.PyData.canLayAll0 xs = true := by unfold PySem.PyData.canLay0 at h; exact h
    have h1 := shown_les xs h'
    have h2 := tuple_le (PySem.PyData.shownAll xs)
    unfold PySem.PyData.shown szP
    omega
  | .dict _, h => by unfold PySem.PyData.canLay0 at h; cases h
theorem shown_les : ∀ l : List PyData, PySem.PyData.canLayAll0 l = true → PySem.piled (PySem.PyData.shownAll l) ≤ szPs l
  | [], _ => by unfold PySem.PyData.shownAll szPs; exact Nat.le_refl _
  | x :: r, h => by
    have h' : (x.canLay0 && PySem.PyData.canLayAll0 r) = true := by unfold PySem.PyData.canLayAll0 at h; exact h
    rw [Bool.and_eq_true] at h'
    have h1 := shown_le x h'.1
    have h2 := shown_les r h'.2
    unfold PySem.PyData.shownAll szPs
    rw [PySem.piled_cons]
    omega
end
theorem repr_ok {d : D} {p : PyData} (e : d.toP = some p) (h1 : p.showable = true) (h2 : p.depth ≤ 150) (h3 : p.canLay0 = true) (h4 : szP p ≤ szL) : reprD d = some (.str p.shown) := by
  unfold reprD
  rw [e]
  show (if p.showable && decide (p.depth ≤ 150) && decide (p.shown.length ≤ szL) then some (D.str p.shown) else none) = _
  rw [h1, decide_eq_true h2, decide_eq_true (Nat.le_trans (shown_le p h3) h4)]
  rfl
/-! #### ints -/
theorem toPs_ints : ∀ l : List Int, D.toPs (l.map .int) = some (l.map .int)
  | [] => by simp [D.toPs]
  | x :: l => by
    show (D.toP (.int x)).bind _ = _
    unfold D.toP
    rw [toPs_ints l]; rfl
theorem show_ints {l : List Int} (h : ∀ x ∈ l, x.natAbs.log2 < 1920) : PySem.PyData.showableAll (l.map .int) = true := by
  induction l with
  | nil => simp [PySem.PyData.showableAll]
  | cons x l ih =>
    rw [List.map_cons]
    unfold PySem.PyData.showableAll
    rw [ih fun y hy => h y (List.mem_cons_of_mem _ hy)]
    unfold PySem.PyData.showable
    rw [decide_eq_true (h x List.mem_cons_self)]; rfl
theorem lay_ints (l : List Int) : PySem.PyData.canLayAll0 (l.map .int) = true := by
  induction l with
  | nil => simp [PySem.PyData.canLayAll0]
  | cons x l ih =>
    rw [List.map_cons]
    unfold PySem.PyData.canLayAll0
    rw [ih]
    simp [PySem.PyData.canLay0]
theorem depth_ints (l : List Int) : PySem.PyData.depthAll (l.map .int) = 0 := by
  induction l with
  | nil => simp [PySem.PyData.depthAll]
  | cons x l ih =>
    rw [List.map_cons]
    unfold PySem.PyData.depthAll
    rw [ih]
    simp [PySem.PyData.depth]
theorem sz_ints {l : List Int} {m : Nat} (h : ∀ x ∈ l, x.natAbs ≤ m) : szPs (l.map .int) ≤ (m + 4) * l.length := by
  induction l with
  | nil => simp [szPs]
  | cons x l ih =>
    rw [List.map_cons]
    have h1 := h x List.mem_cons_self
    have h2 := ih fun y hy => h y (List.mem_cons_of_mem _ hy)
    unfold szPs
    unfold szP
    rw [List.length_cons, Nat.mul_add]
    omega
theorem log_small {x : Int} (h : x.natAbs < 2 ^ 200) : x.natAbs.log2 < 1920 := by
  by_cases z : x.natAbs = 0
  · rw [z]; decide +kernel
  · have := (Nat.log2_lt z).mpr h
    omega
theorem eqv_int (i j : Int) : PySem.PyData.eqv (.int i) (.int j) = decide (i = j) := by
  unfold PySem.PyData.eqv
  by_cases h : i = j <;> simp [h]
end Mi
/-! Mi: what is data: how deep, how long its text. -/
namespace Mi
open PySem (PyData Str)
def Dat (dep sz : Nat) (d : D) : Prop := ∃ p, d.toP = some p ∧ p.showable = true ∧ p.canLay0 = true ∧ p.depth ≤ dep ∧ szP p ≤ sz
def Dats (dep sz : Nat) (l : List D) : Prop := ∃ ps, D.toPs l = some ps ∧ PySem.PyData.showableAll ps = true ∧ PySem.PyData.canLayAll0 ps = true ∧ PySem.PyData.depthAll ps ≤ dep ∧ szPs ps ≤ sz ∧ ps.length = l.length
theorem Dats.nil {dep : Nat} : Dats dep 0 [] := ⟨[], by simp [D.toPs], by simp [PySem.PyData.showableAll], by simp [PySem.PyData.canLayAll0], by simp [PySem.PyData.depthAll], by simp [szPs], rfl⟩
theorem Dats.cons {dep s t : Nat} {d : D} {l : List D} (h : Dat dep s d) (k : Dats dep t l) : Dats dep (s + 2 + t) (d :: l) := by
  obtain ⟨p, e1, e2, e3, e4, e5⟩ := h
  obtain ⟨ps, f1, f2, f3, f4, f5, f6⟩ := k
  refine ⟨p :: ps, ?_, ?_, ?_, ?_, ?_, by simp [f6]⟩
  · unfold D.toPs; rw [e1, f1]; rfl
  · unfold PySem.PyData.showableAll; rw [e2, f2]; rfl
  · unfold PySem.PyData.canLayAll0; rw [e3, f3]; rfl
  · unfold PySem.PyData.depthAll; omega
  · unfold szPs; omega
theorem Dats.mono {dep s dep' s' : Nat} {l : List D} (h : Dats dep s l) (h1 : dep ≤ dep') (h2 : s ≤ s') : Dats dep' s' l := by
  obtain ⟨ps, f1, f2, f3, f4, f5, f6⟩ := h
  exact ⟨ps, f1, f2, f3, by omega, by omega, f6⟩
theorem Dat.mono {dep s dep' s' : Nat} {d : D} (h : Dat dep s d) (h1 : dep ≤ dep') (h2 : s ≤ s') : Dat dep' s' d := by
  obtain ⟨p, e1, e2, e3, e4, e5⟩ := h
  exact ⟨p, e1, e2, e3, by omega, by omega⟩
theorem Dat.tup {dep s : Nat} {l : List D} (h : Dats dep s l) : Dat (dep + 1) (s + 5) (.tup l) := by
  obtain ⟨ps, f1, f2, f3, f4, f5, f6⟩ := h
  refine ⟨.tuple ps, ?_, ?_, ?_, ?_, ?_⟩
  · unfold D.toP; rw [f1]; rfl
  · unfold PySem.PyData.showable; exact f2
  · unfold PySem.PyData.canLay0; exact f3
  · unfold PySem.PyData.depth; omega
  · unfold szP; omega
theorem Dat.lst {dep s : Nat} {l : List D} (h : Dats dep s l) : Dat (dep + 1) (s + 3) (.lst l) := by
  obtain ⟨ps, f1, f2, f3, f4, f5, f6⟩ := h
  refine ⟨.list ps, ?_, ?_, ?_, ?_, ?_⟩
  · unfold D.toP; rw [f1]; rfl
  · unfold PySem.PyData.showable; exact f2
  · unfold PySem.PyData.canLay0; exact f3
  · unfold PySem.PyData.depth; omega
  · unfold szP; omega
theorem Dat.int {dep : Nat} {i : Int} (h : i.natAbs < 1000000) : Dat dep 1000002 (.int i) :=
  ⟨.int i, rfl, by unfold PySem.PyData.showable; exact decide_eq_true (log_small (by omega)), by simp [PySem.PyData.canLay0], by simp [PySem.PyData.depth], by unfold szP; omega⟩
theorem Dat.nat {dep m : Nat} {i : Nat} (h : i ≤ m) (hm : m < 1000000) : Dat dep (m + 2) (.int i) :=
  ⟨.int i, rfl, by unfold PySem.PyData.showable; exact decide_eq_true (log_small (by omega)), by simp [PySem.PyData.canLay0], by simp [PySem.PyData.depth], by unfold szP; omega⟩
theorem Dat.bl {dep : Nat} {b : Bool} : Dat dep 5 (.bl b) := ⟨.bool b, rfl, by simp [PySem.PyData.showable], by simp [PySem.PyData.canLay0], by simp [PySem.PyData.depth], by simp [szP]⟩
theorem Dat.non {dep : Nat} : Dat dep 4 .non := ⟨.none, rfl, by simp [PySem.PyData.showable], by simp [PySem.PyData.canLay0], by simp [PySem.PyData.depth], by simp [szP]⟩
theorem Dat.str {dep : Nat} {x : Str} (h : (PyData.str x).canLay0 = true) {m : Nat} (hm : (PySem.PyData.shown (.str x)).length ≤ m) : Dat dep m (.str x) := ⟨.str x, rfl, by simp [PySem.PyData.showable], h, by simp [PySem.PyData.depth], by unfold szP; exact hm⟩
theorem Dats.all {dep s : Nat} : ∀ {l : List D}, (∀ d ∈ l, Dat dep s d) → Dats dep ((s + 2) * l.length) l
  | [], _ => by simpa using Dats.nil
  | d :: l, h => by
    have h1 := Dats.cons (h d List.mem_cons_self) (Dats.all fun x hx => h x (List.mem_cons_of_mem _ hx))
    refine h1.mono (Nat.le_refl _) ?_
    rw [List.length_cons, Nat.mul_add]
    omega
theorem Dat.text {dep s : Nat} {d : D} (h : Dat dep s d) (h1 : dep ≤ 150) (h2 : s ≤ szL) : ∃ x, reprD d = some (.str x) := by
  obtain ⟨p, e1, e2, e3, e4, e5⟩ := h
  exact ⟨_, repr_ok e1 e2 (by omega) e3 (by omega)⟩
theorem Dats.empty {dep s : Nat} {l : List D} (h : Dats dep s l) (h1 : dep < 150) : eqD (.tup l) (.tup []) = some l.isEmpty := by
  obtain ⟨ps, f1, f2, f3, f4, f5, f6⟩ := h
  have e : eqD (.tup l) (.tup []) = (match (D.tup l).toP, (D.tup []).toP with
    | some p, some q => if dpOk p && dpOk q then some (PyData.eqv p q) else none
    | _, _ => none) := rfl
  have e1 : (D.tup l).toP = some (.tuple ps) := by unfold D.toP; rw [f1]; rfl
  have e2 : (D.tup []).toP = some (.tuple []) := by simp [D.toP, D.toPs]
  rw [e, e1, e2]
  have k1 : dpOk (.tuple ps) = true := by
    unfold dpOk
    rw [Bool.and_eq_true]
    refine ⟨by unfold PySem.PyData.canLay0; exact f3, decide_eq_true ?_⟩
    unfold PySem.PyData.depth
    omega
  have k2 : dpOk (.tuple []) = true := by simp [dpOk, PySem.PyData.canLay0, PySem.PyData.canLayAll0, PySem.PyData.depth, PySem.PyData.depthAll]
  show (if dpOk _ && dpOk _ then some (PyData.eqv _ _) else none) = _
  rw [k1, k2]
  show some (PyData.eqv _ _) = _
  congr 1
  cases ps with
  | nil =>
    cases l with
    | nil => simp [PySem.PyData.eqv, PySem.PyData.eqvAll]
    | cons _ _ => simp at f6
  | cons _ _ =>
    cases l with
    | nil => simp at f6
    | cons _ _ => simp [PySem.PyData.eqv, PySem.PyData.eqvAll]
end Mi
/-! Mi: the laws' own source of numbers, with six keys. -/
namespace Mi
def keys6 : List L2.Key := [.inr "left", .inr "seed", .inr "cells", .inr "spot", .inr "next", .inr "quants"]
def machS (left seed : Int) (cells : List Int) (spot next quants : Int) : D := .dK keys6 [.int left, .int seed, .lst (cells.map .int), .int spot, .int next, .int quants]
/-- at most b times asked -/
def Mach6 (b : Nat) (d : D) : Prop := ∃ (left seed : Int) (cells : List Int) (spot : Nat) (next quants : Int), d = machS left seed cells spot next quants ∧ cells ≠ [] ∧ spot ≤ b
theorem okRs_intl (n : Nat) : ∀ l : List Int, D.okRs n (l.map .int) = true
  | [] => rfl
  | d :: l => by
    show (true && D.okRs n (l.map .int)) = true
    rw [okRs_intl n l]; rfl
theorem Mach6.obj {b : Nat} {d : D} (m : Mach6 b d) : isObj d = true := by obtain ⟨_, _, _, _, _, _, rfl, _⟩ := m; rfl
theorem Mach6.ok {b : Nat} {d : D} (m : Mach6 b d) (n : Nat) : d.okR n = true := by
  obtain ⟨left, seed, cells, spot, nx, qn, rfl, _⟩ := m
  show (true && (true && (D.okR n (.lst (cells.map .int)) && (true && (true && (true && true)))))) = true
  rw [show D.okR n (.lst (cells.map .int)) = true by unfold D.okR; exact okRs_intl n cells]
  rfl
theorem Mach6.mono {b c : Nat} {d : D} (m : Mach6 b d) (h : b ≤ c) : Mach6 c d := by
  obtain ⟨left, seed, cells, spot, nx, qn, e, n, z⟩ := m
  exact ⟨left, seed, cells, spot, nx, qn, e, n, Nat.le_trans z h⟩
theorem keys6_nd : keys6.Nodup := by decide +kernel
section
variable {a b c d e f w : D}
theorem l6_left : lkD keys6 [a, b, c, d, e, f] (.inr "left") = some a := lk_at (j := 0) keys6_nd rfl rfl
theorem l6_seed : lkD keys6 [a, b, c, d, e, f] (.inr "seed") = some b := lk_at (j := 1) keys6_nd rfl rfl
theorem l6_cells : lkD keys6 [a, b, c, d, e, f] (.inr "cells") = some c := lk_at (j := 2) keys6_nd rfl rfl
theorem l6_spot : lkD keys6 [a, b, c, d, e, f] (.inr "spot") = some d := lk_at (j := 3) keys6_nd rfl rfl
theorem l6_next : lkD keys6 [a, b, c, d, e, f] (.inr "next") = some e := lk_at (j := 4) keys6_nd rfl rfl
theorem l6_quants : lkD keys6 [a, b, c, d, e, f] (.inr "quants") = some f := lk_at (j := 5) keys6_nd rfl rfl
theorem m6L : (Sum.inr "left" : L2.Key) ∈ keys6 := List.mem_of_getElem? (i := 0) rfl
theorem m6S : (Sum.inr "spot" : L2.Key) ∈ keys6 := List.mem_of_getElem? (i := 3) rfl
theorem p6_left : putKs keys6 (.inr "left") = keys6 := if_pos m6L
theorem p6_spot : putKs keys6 (.inr "spot") = keys6 := if_pos m6S
theorem kn7 : (Sum.inr "left" : L2.Key) ≠ .inr "next" := ne_key (by decide +kernel)
theorem kn8 : (Sum.inr "left" : L2.Key) ≠ .inr "quants" := ne_key (by decide +kernel)
theorem kn9 : (Sum.inr "spot" : L2.Key) ≠ .inr "next" := ne_key (by decide +kernel)
theorem kn10 : (Sum.inr "spot" : L2.Key) ≠ .inr "quants" := ne_key (by decide +kernel)
theorem v6_left : putVs keys6 [a, b, c, d, e, f] (.inr "left") w = [w, b, c, d, e, f] := by
  unfold putVs
  rw [if_pos m6L]
  unfold keys6
  rw [setD_yes rfl, setD_no kn1.symm, setD_no kn2.symm, setD_no kn3.symm, setD_no kn7.symm, setD_no kn8.symm, setD_nil]
theorem v6_spot : putVs keys6 [a, b, c, d, e, f] (.inr "spot") w = [a, b, c, w, e, f] := by
  unfold putVs
  rw [if_pos m6S]
  unfold keys6
  rw [setD_no kn3, setD_no kn5, setD_no kn6, setD_yes rfl, setD_no kn9.symm, setD_no kn10.symm, setD_nil]
theorem k6_len : keys6.length < szL := by decide
end
/-- the text of the draw, alike in the laws -/
def drawF : Fn := ⟨2, 8, false,
  .cons (.ite (.cmp .gt (.ix (.var 0) (.str "left")) (.int 0)) (.cons (.asg (.name 2) (.bin .mod false (.bi .int false (.cons (.ix (.var 0) (.str "left")) (.nil))) (.var 1))) (.cons (.put (.var 0) (.str "left") (.bin .fdiv false (.ix (.var 0) (.str "left")) (.var 1))) (.cons (.ret (.var 2)) (.nil)))) (.nil)) (.cons (.asg (.name 3) (.ix (.var 0) (.str "spot"))) (.cons (.put (.var 0) (.str "spot") (.bin .add false (.var 3) (.int 1))) (.cons (.asg (.tup (.cons (.name 4) (.cons (.name 5) (.nil)))) (.tup (.cons (.ix (.var 0) (.str "cells")) (.cons (.bin .add false (.ix (.var 0) (.str "seed")) (.bin .mul false (.bin .mul false (.int 40503) (.var 3)) (.var 3))) (.nil))))) (.cons (.asg (.name 6) (.ix (.var 4) (.bin .mod false (.bi .int false (.cons (.var 3) (.nil))) (.bi .len false (.cons (.var 4) (.nil)))))) (.cons (.asg (.name 7) (.bin .mod false (.bi .int false (.cons (.bin .add false (.bin .mul false (.var 6) (.bin .add false (.bin .mul false (.int 2) (.var 3)) (.int 3))) (.var 5)) (.nil))) (.int 2147483647))) (.cons (.asg (.name 7) (.bin .mod false (.bi .int false (.cons (.bin .add false (.bin .add false (.bin .mul false (.var 7) (.var 7)) (.bin .mul false (.int 69621) (.var 3))) (.ix (.var 0) (.str "seed"))) (.nil))) (.int 2147483629))) (.cons (.ret (.bin .mod false (.bin .fdiv false (.bin .mod false (.bi .int false (.cons (.bin .add false (.bin .mul false (.var 7) (.int 48271)) (.var 3)) (.nil))) (.int 2147483647)) (.int 11)) (.var 1))) (.nil))))))))⟩
theorem at_mod {l : List Int} {i : Nat} (h : l ≠ []) : ∃ c, atD (l.map .int) ((i : Int) % (l.length : Int)) = some (.int c) := by
  have hl : 0 < l.length := by cases l with | nil => exact absurd rfl h | cons _ _ => simp
  have hm : i % l.length < l.length := Nat.mod_lt i hl
  refine ⟨l[i % l.length], ?_⟩
  have e : ((i : Int) % (l.length : Int)) = ((i % l.length : Nat) : Int) := by simp
  rw [e]
  refine at_nat ?_
  rw [List.getElem?_map, List.getElem?_eq_getElem hm]
  rfl
theorem m_draw {P : List Fn} {j k b i : Nat} {below : Int} {d : D} {h : MH} {Q : D → MH → Prop} (hP : P[j]? = some drawF) (hi : h[i]? = some d) (m : Mach6 b d) (hb : b < 1000000000) (h0 : 0 < below) (h1 : below < 2 ^ 62)
    (w : ∀ (r : Int) (d' : D), 0 ≤ r → r < below → Mach6 (b + 1) d' → Q (.int r) (h.set i d')) : Wc (callF P (k + 1)) j [.ref i, .int below] h Q := by
  obtain ⟨left, seed, cells, spot, nx, qn, rfl, ne, sb⟩ := m
  have hl : i < h.length := (List.getElem?_eq_some_iff.mp hi).1
  have d0 : deref h (.ref i) = .dK keys6 [.int left, .int seed, .lst (cells.map .int), .int spot, .int nx, .int qn] := deref_ref hi rfl
  have dv : ∀ j : Int, divOk j below = true := fun j => divOk_lt (n := 62) h0 h1 (by decide)
  have dv11 : ∀ j : Int, divOk j 11 = true := fun j => divOk_lt (n := 62) (by decide) (by decide) (by decide)
  have hc : 0 < cells.length := by cases cells with | nil => exact absurd rfl ne | cons _ _ => simp
  obtain ⟨c, ec⟩ := at_mod (i := spot) ne
  refine wc_at (fn := drawF) hP rfl ?_
  simp [drawF, ws_nil, ws_pass, ws_brk, ws_cnt, ws_ret0, ws_cons, nxt_rt, nxt_bk, nxt_ct, ws_asg, ws_put, ws_expr, ws_ret, ws_ite, we_var, we_int, we_str, we_bl, we_non, we_nopart, we_gint, we_gfn, we_bin, we_neg, we_cmp, we_chain, we_andd, we_orr, we_one, we_nott, we_ite, wl_nil, wl_cons, we_tup, we_lst, we_dct, we_dsp, we_call, we_callv, we_bi, we_isi, isiD, we_ix, we_slc, we_rev, we_me, we_frz, we_rng, wf_rt, wf_nx, wr_ok, wr_opt, wr_grd, wr_err, asgD, deref_int, deref_tup, deref_lst, deref_str, deref_bl, deref_non, deref_dK, deref_dT, deref_scr, deref_fn, isObj, bin_add, bin_addS, bin_addT, bin_addL, bin_sub, bin_mul, bin_mulL, bin_mulT, bin_fdiv, bin_mod, bin_pow, cmp_eq, cmp_ne, cmp_lt, cmp_le, cmp_gt, cmp_ge, cmp_isB, cmp_isnotB, cmp_is, cmp_isnot, cmp_inn, cmp_notin, eq_int, eq_str, eq_bl, tru_non, tru_bl, tru_int, tru_tup, tru_lst, tru_dK, ix_tup, ix_lst, ix_dK, ix_dT, bi_lenT, bi_lenL, bi_lenS, bi_int, bi_intB, bi_tupT, bi_tupL, bi_lisT, bi_lisL, bi_repr, bi_all, bi_any, bi_sum, bi_max, bi_min, bi_abs, bi_gcd, in_lst, in_tup, in_dK, in_dT, get_dKi, get_dKs, get_dTt, put_dKi, put_dKs, put_dTt, put_lst, key_int, key_str, keys_nil, keys_cons, slc_tup, slc_lst, slc_scr, end_t, end_f, ty_app, ty_pop, ty_ext, ty_getK, ty_getT, ok_int, ok_str, ok_non, isNop, and_assoc, at_0, at_1, at_2, at_3, d0, l6_left]
  by_cases hp : 0 < left
  · have hp2 : ¬ left ≤ 0 := by omega
    simp [ws_nil, ws_pass, ws_brk, ws_cnt, ws_ret0, ws_cons, nxt_rt, nxt_bk, nxt_ct, ws_asg, ws_put, ws_expr, ws_ret, ws_ite, we_var, we_int, we_str, we_bl, we_non, we_nopart, we_gint, we_gfn, we_bin, we_neg, we_cmp, we_chain, we_andd, we_orr, we_one, we_nott, we_ite, wl_nil, wl_cons, we_tup, we_lst, we_dct, we_dsp, we_call, we_callv, we_bi, we_isi, isiD, we_ix, we_slc, we_rev, we_me, we_frz, we_rng, wf_rt, wf_nx, wr_ok, wr_opt, wr_grd, wr_err, asgD, deref_int, deref_tup, deref_lst, deref_str, deref_bl, deref_non, deref_dK, deref_dT, deref_scr, deref_fn, isObj, bin_add, bin_addS, bin_addT, bin_addL, bin_sub, bin_mul, bin_mulL, bin_mulT, bin_fdiv, bin_mod, bin_pow, cmp_eq, cmp_ne, cmp_lt, cmp_le, cmp_gt, cmp_ge, cmp_isB, cmp_isnotB, cmp_is, cmp_isnot, cmp_inn, cmp_notin, eq_int, eq_str, eq_bl, tru_non, tru_bl, tru_int, tru_tup, tru_lst, tru_dK, ix_tup, ix_lst, ix_dK, ix_dT, bi_lenT, bi_lenL, bi_lenS, bi_int, bi_intB, bi_tupT, bi_tupL, bi_lisT, bi_lisL, bi_repr, bi_all, bi_any, bi_sum, bi_max, bi_min, bi_abs, bi_gcd, in_lst, in_tup, in_dK, in_dT, get_dKi, get_dKs, get_dTt, put_dKi, put_dKs, put_dTt, put_lst, key_int, key_str, keys_nil, keys_cons, slc_tup, slc_lst, slc_scr, end_t, end_f, ty_app, ty_pop, ty_ext, ty_getK, ty_getT, ok_int, ok_str, ok_non, isNop, and_assoc, at_0, at_1, at_2, at_3, hp, hp2, d0, l6_left, h0]
    rw [nxt_nx]
    simp [ws_nil, ws_pass, ws_brk, ws_cnt, ws_ret0, ws_cons, nxt_rt, nxt_bk, nxt_ct, ws_asg, ws_put, ws_expr, ws_ret, ws_ite, we_var, we_int, we_str, we_bl, we_non, we_nopart, we_gint, we_gfn, we_bin, we_neg, we_cmp, we_chain, we_andd, we_orr, we_one, we_nott, we_ite, wl_nil, wl_cons, we_tup, we_lst, we_dct, we_dsp, we_call, we_callv, we_bi, we_isi, isiD, we_ix, we_slc, we_rev, we_me, we_frz, we_rng, wf_rt, wf_nx, wr_ok, wr_opt, wr_grd, wr_err, asgD, deref_int, deref_tup, deref_lst, deref_str, deref_bl, deref_non, deref_dK, deref_dT, deref_scr, deref_fn, isObj, bin_add, bin_addS, bin_addT, bin_addL, bin_sub, bin_mul, bin_mulL, bin_mulT, bin_fdiv, bin_mod, bin_pow, cmp_eq, cmp_ne, cmp_lt, cmp_le, cmp_gt, cmp_ge, cmp_isB, cmp_isnotB, cmp_is, cmp_isnot, cmp_inn, cmp_notin, eq_int, eq_str, eq_bl, tru_non, tru_bl, tru_int, tru_tup, tru_lst, tru_dK, ix_tup, ix_lst, ix_dK, ix_dT, bi_lenT, bi_lenL, bi_lenS, bi_int, bi_intB, bi_tupT, bi_tupL, bi_lisT, bi_lisL, bi_repr, bi_all, bi_any, bi_sum, bi_max, bi_min, bi_abs, bi_gcd, in_lst, in_tup, in_dK, in_dT, get_dKi, get_dKs, get_dTt, put_dKi, put_dKs, put_dTt, put_lst, key_int, key_str, keys_nil, keys_cons, slc_tup, slc_lst, slc_scr, end_t, end_f, ty_app, ty_pop, ty_ext, ty_getK, ty_getT, ok_int, ok_str, ok_non, isNop, and_assoc, at_0, at_1, at_2, at_3, d0, l6_left, dv, hi, machS, p6_left, v6_left, k6_len]
    rw [nxt_nx]
    simp [ws_nil, ws_pass, ws_brk, ws_cnt, ws_ret0, ws_cons, nxt_rt, nxt_bk, nxt_ct, ws_asg, ws_put, ws_expr, ws_ret, ws_ite, we_var, we_int, we_str, we_bl, we_non, we_nopart, we_gint, we_gfn, we_bin, we_neg, we_cmp, we_chain, we_andd, we_orr, we_one, we_nott, we_ite, wl_nil, wl_cons, we_tup, we_lst, we_dct, we_dsp, we_call, we_callv, we_bi, we_isi, isiD, we_ix, we_slc, we_rev, we_me, we_frz, we_rng, wf_rt, wf_nx, wr_ok, wr_opt, wr_grd, wr_err, asgD, deref_int, deref_tup, deref_lst, deref_str, deref_bl, deref_non, deref_dK, deref_dT, deref_scr, deref_fn, isObj, bin_add, bin_addS, bin_addT, bin_addL, bin_sub, bin_mul, bin_mulL, bin_mulT, bin_fdiv, bin_mod, bin_pow, cmp_eq, cmp_ne, cmp_lt, cmp_le, cmp_gt, cmp_ge, cmp_isB, cmp_isnotB, cmp_is, cmp_isnot, cmp_inn, cmp_notin, eq_int, eq_str, eq_bl, tru_non, tru_bl, tru_int, tru_tup, tru_lst, tru_dK, ix_tup, ix_lst, ix_dK, ix_dT, bi_lenT, bi_lenL, bi_lenS, bi_int, bi_intB, bi_tupT, bi_tupL, bi_lisT, bi_lisL, bi_repr, bi_all, bi_any, bi_sum, bi_max, bi_min, bi_abs, bi_gcd, in_lst, in_tup, in_dK, in_dT, get_dKi, get_dKs, get_dTt, put_dKi, put_dKs, put_dTt, put_lst, key_int, key_str, keys_nil, keys_cons, slc_tup, slc_lst, slc_scr, end_t, end_f, ty_app, ty_pop, ty_ext, ty_getK, ty_getT, ok_int, ok_str, ok_non, isNop, and_assoc, at_0, at_1, at_2, at_3]
    refine wr_fin2 rfl take_set ?_
    exact w _ _ (Int.emod_nonneg _ (by omega)) (Int.emod_lt_of_pos _ h0) ⟨left / below, seed, cells, spot, nx, qn, rfl, ne, by omega⟩
  · have d1 : ∀ x : D, isObj x = true → deref (h.set i x) (.ref i) = x := fun x hx => deref_ref (by rw [List.getElem?_set_self hl]) hx
    have hp' : left ≤ 0 := by omega
    simp [ws_nil, ws_pass, ws_brk, ws_cnt, ws_ret0, ws_cons, nxt_rt, nxt_bk, nxt_ct, ws_asg, ws_put, ws_expr, ws_ret, ws_ite, we_var, we_int, we_str, we_bl, we_non, we_nopart, we_gint, we_gfn, we_bin, we_neg, we_cmp, we_chain, we_andd, we_orr, we_one, we_nott, we_ite, wl_nil, wl_cons, we_tup, we_lst, we_dct, we_dsp, we_call, we_callv, we_bi, we_isi, isiD, we_ix, we_slc, we_rev, we_me, we_frz, we_rng, wf_rt, wf_nx, wr_ok, wr_opt, wr_grd, wr_err, asgD, deref_int, deref_tup, deref_lst, deref_str, deref_bl, deref_non, deref_dK, deref_dT, deref_scr, deref_fn, isObj, bin_add, bin_addS, bin_addT, bin_addL, bin_sub, bin_mul, bin_mulL, bin_mulT, bin_fdiv, bin_mod, bin_pow, cmp_eq, cmp_ne, cmp_lt, cmp_le, cmp_gt, cmp_ge, cmp_isB, cmp_isnotB, cmp_is, cmp_isnot, cmp_inn, cmp_notin, eq_int, eq_str, eq_bl, tru_non, tru_bl, tru_int, tru_tup, tru_lst, tru_dK, ix_tup, ix_lst, ix_dK, ix_dT, bi_lenT, bi_lenL, bi_lenS, bi_int, bi_intB, bi_tupT, bi_tupL, bi_lisT, bi_lisL, bi_repr, bi_all, bi_any, bi_sum, bi_max, bi_min, bi_abs, bi_gcd, in_lst, in_tup, in_dK, in_dT, get_dKi, get_dKs, get_dTt, put_dKi, put_dKs, put_dTt, put_lst, key_int, key_str, keys_nil, keys_cons, slc_tup, slc_lst, slc_scr, end_t, end_f, ty_app, ty_pop, ty_ext, ty_getK, ty_getT, ok_int, ok_str, ok_non, isNop, and_assoc, at_0, at_1, at_2, at_3, hp, hp']
    rw [nxt_nx]
    simp [ws_nil, ws_pass, ws_brk, ws_cnt, ws_ret0, ws_cons, nxt_rt, nxt_bk, nxt_ct, ws_asg, ws_put, ws_expr, ws_ret, ws_ite, we_var, we_int, we_str, we_bl, we_non, we_nopart, we_gint, we_gfn, we_bin, we_neg, we_cmp, we_chain, we_andd, we_orr, we_one, we_nott, we_ite, wl_nil, wl_cons, we_tup, we_lst, we_dct, we_dsp, we_call, we_callv, we_bi, we_isi, isiD, we_ix, we_slc, we_rev, we_me, we_frz, we_rng, wf_rt, wf_nx, wr_ok, wr_opt, wr_grd, wr_err, asgD, deref_int, deref_tup, deref_lst, deref_str, deref_bl, deref_non, deref_dK, deref_dT, deref_scr, deref_fn, isObj, bin_add, bin_addS, bin_addT, bin_addL, bin_sub, bin_mul, bin_mulL, bin_mulT, bin_fdiv, bin_mod, bin_pow, cmp_eq, cmp_ne, cmp_lt, cmp_le, cmp_gt, cmp_ge, cmp_isB, cmp_isnotB, cmp_is, cmp_isnot, cmp_inn, cmp_notin, eq_int, eq_str, eq_bl, tru_non, tru_bl, tru_int, tru_tup, tru_lst, tru_dK, ix_tup, ix_lst, ix_dK, ix_dT, bi_lenT, bi_lenL, bi_lenS, bi_int, bi_intB, bi_tupT, bi_tupL, bi_lisT, bi_lisL, bi_repr, bi_all, bi_any, bi_sum, bi_max, bi_min, bi_abs, bi_gcd, in_lst, in_tup, in_dK, in_dT, get_dKi, get_dKs, get_dTt, put_dKi, put_dKs, put_dTt, put_lst, key_int, key_str, keys_nil, keys_cons, slc_tup, slc_lst, slc_scr, end_t, end_f, ty_app, ty_pop, ty_ext, ty_getK, ty_getT, ok_int, ok_str, ok_non, isNop, and_assoc, at_0, at_1, at_2, at_3, d0, l6_spot]
    rw [nxt_nx]
    simp [ws_nil, ws_pass, ws_brk, ws_cnt, ws_ret0, ws_cons, nxt_rt, nxt_bk, nxt_ct, ws_asg, ws_put, ws_expr, ws_ret, ws_ite, we_var, we_int, we_str, we_bl, we_non, we_nopart, we_gint, we_gfn, we_bin, we_neg, we_cmp, we_chain, we_andd, we_orr, we_one, we_nott, we_ite, wl_nil, wl_cons, we_tup, we_lst, we_dct, we_dsp, we_call, we_callv, we_bi, we_isi, isiD, we_ix, we_slc, we_rev, we_me, we_frz, we_rng, wf_rt, wf_nx, wr_ok, wr_opt, wr_grd, wr_err, asgD, deref_int, deref_tup, deref_lst, deref_str, deref_bl, deref_non, deref_dK, deref_dT, deref_scr, deref_fn, isObj, bin_add, bin_addS, bin_addT, bin_addL, bin_sub, bin_mul, bin_mulL, bin_mulT, bin_fdiv, bin_mod, bin_pow, cmp_eq, cmp_ne, cmp_lt, cmp_le, cmp_gt, cmp_ge, cmp_isB, cmp_isnotB, cmp_is, cmp_isnot, cmp_inn, cmp_notin, eq_int, eq_str, eq_bl, tru_non, tru_bl, tru_int, tru_tup, tru_lst, tru_dK, ix_tup, ix_lst, ix_dK, ix_dT, bi_lenT, bi_lenL, bi_lenS, bi_int, bi_intB, bi_tupT, bi_tupL, bi_lisT, bi_lisL, bi_repr, bi_all, bi_any, bi_sum, bi_max, bi_min, bi_abs, bi_gcd, in_lst, in_tup, in_dK, in_dT, get_dKi, get_dKs, get_dTt, put_dKi, put_dKs, put_dTt, put_lst, key_int, key_str, keys_nil, keys_cons, slc_tup, slc_lst, slc_scr, end_t, end_f, ty_app, ty_pop, ty_ext, ty_getK, ty_getT, ok_int, ok_str, ok_non, isNop, and_assoc, at_0, at_1, at_2, at_3, d0, hi, machS, p6_spot, v6_spot, k6_len]
    rw [nxt_nx]
    have d2 : deref (h.set i (.dK keys6 [.int left, .int seed, .lst (cells.map .int), .int (spot + 1), .int nx, .int qn])) (.ref i) = .dK keys6 [.int left, .int seed, .lst (cells.map .int), .int (spot + 1), .int nx, .int qn] := d1 _ rfl
    simp [ws_nil, ws_pass, ws_brk, ws_cnt, ws_ret0, ws_cons, nxt_rt, nxt_bk, nxt_ct, ws_asg, ws_put, ws_expr, ws_ret, ws_ite, we_var, we_int, we_str, we_bl, we_non, we_nopart, we_gint, we_gfn, we_bin, we_neg, we_cmp, we_chain, we_andd, we_orr, we_one, we_nott, we_ite, wl_nil, wl_cons, we_tup, we_lst, we_dct, we_dsp, we_call, we_callv, we_bi, we_isi, isiD, we_ix, we_slc, we_rev, we_me, we_frz, we_rng, wf_rt, wf_nx, wr_ok, wr_opt, wr_grd, wr_err, asgD, deref_int, deref_tup, deref_lst, deref_str, deref_bl, deref_non, deref_dK, deref_dT, deref_scr, deref_fn, isObj, bin_add, bin_addS, bin_addT, bin_addL, bin_sub, bin_mul, bin_mulL, bin_mulT, bin_fdiv, bin_mod, bin_pow, cmp_eq, cmp_ne, cmp_lt, cmp_le, cmp_gt, cmp_ge, cmp_isB, cmp_isnotB, cmp_is, cmp_isnot, cmp_inn, cmp_notin, eq_int, eq_str, eq_bl, tru_non, tru_bl, tru_int, tru_tup, tru_lst, tru_dK, ix_tup, ix_lst, ix_dK, ix_dT, bi_lenT, bi_lenL, bi_lenS, bi_int, bi_intB, bi_tupT, bi_tupL, bi_lisT, bi_lisL, bi_repr, bi_all, bi_any, bi_sum, bi_max, bi_min, bi_abs, bi_gcd, in_lst, in_tup, in_dK, in_dT, get_dKi, get_dKs, get_dTt, put_dKi, put_dKs, put_dTt, put_lst, key_int, key_str, keys_nil, keys_cons, slc_tup, slc_lst, slc_scr, end_t, end_f, ty_app, ty_pop, ty_ext, ty_getK, ty_getT, ok_int, ok_str, ok_non, isNop, and_assoc, at_0, at_1, at_2, at_3, d2, l6_cells, l6_seed, mulOk_l (i := 40503) (by decide) (by decide), mulOk_r (i := 40503 * (spot : Int)) (j := spot) (by omega) (by omega), szL]
    rw [nxt_nx]
    simp [ws_nil, ws_pass, ws_brk, ws_cnt, ws_ret0, ws_cons, nxt_rt, nxt_bk, nxt_ct, ws_asg, ws_put, ws_expr, ws_ret, ws_ite, we_var, we_int, we_str, we_bl, we_non, we_nopart, we_gint, we_gfn, we_bin, we_neg, we_cmp, we_chain, we_andd, we_orr, we_one, we_nott, we_ite, wl_nil, wl_cons, we_tup, we_lst, we_dct, we_dsp, we_call, we_callv, we_bi, we_isi, isiD, we_ix, we_slc, we_rev, we_me, we_frz, we_rng, wf_rt, wf_nx, wr_ok, wr_opt, wr_grd, wr_err, asgD, deref_int, deref_tup, deref_lst, deref_str, deref_bl, deref_non, deref_dK, deref_dT, deref_scr, deref_fn, isObj, bin_add, bin_addS, bin_addT, bin_addL, bin_sub, bin_mul, bin_mulL, bin_mulT, bin_fdiv, bin_mod, bin_pow, cmp_eq, cmp_ne, cmp_lt, cmp_le, cmp_gt, cmp_ge, cmp_isB, cmp_isnotB, cmp_is, cmp_isnot, cmp_inn, cmp_notin, eq_int, eq_str, eq_bl, tru_non, tru_bl, tru_int, tru_tup, tru_lst, tru_dK, ix_tup, ix_lst, ix_dK, ix_dT, bi_lenT, bi_lenL, bi_lenS, bi_int, bi_intB, bi_tupT, bi_tupL, bi_lisT, bi_lisL, bi_repr, bi_all, bi_any, bi_sum, bi_max, bi_min, bi_abs, bi_gcd, in_lst, in_tup, in_dK, in_dT, get_dKi, get_dKs, get_dTt, put_dKi, put_dKs, put_dTt, put_lst, key_int, key_str, keys_nil, keys_cons, slc_tup, slc_lst, slc_scr, end_t, end_f, ty_app, ty_pop, ty_ext, ty_getK, ty_getT, ok_int, ok_str, ok_non, isNop, and_assoc, at_0, at_1, at_2, at_3, hc, ec]
    rw [nxt_nx]
    simp [ws_nil, ws_pass, ws_brk, ws_cnt, ws_ret0, ws_cons, nxt_rt, nxt_bk, nxt_ct, ws_asg, ws_put, ws_expr, ws_ret, ws_ite, we_var, we_int, we_str, we_bl, we_non, we_nopart, we_gint, we_gfn, we_bin, we_neg, we_cmp, we_chain, we_andd, we_orr, we_one, we_nott, we_ite, wl_nil, wl_cons, we_tup, we_lst, we_dct, we_dsp, we_call, we_callv, we_bi, we_isi, isiD, we_ix, we_slc, we_rev, we_me, we_frz, we_rng, wf_rt, wf_nx, wr_ok, wr_opt, wr_grd, wr_err, asgD, deref_int, deref_tup, deref_lst, deref_str, deref_bl, deref_non, deref_dK, deref_dT, deref_scr, deref_fn, isObj, bin_add, bin_addS, bin_addT, bin_addL, bin_sub, bin_mul, bin_mulL, bin_mulT, bin_fdiv, bin_mod, bin_pow, cmp_eq, cmp_ne, cmp_lt, cmp_le, cmp_gt, cmp_ge, cmp_isB, cmp_isnotB, cmp_is, cmp_isnot, cmp_inn, cmp_notin, eq_int, eq_str, eq_bl, tru_non, tru_bl, tru_int, tru_tup, tru_lst, tru_dK, ix_tup, ix_lst, ix_dK, ix_dT, bi_lenT, bi_lenL, bi_lenS, bi_int, bi_intB, bi_tupT, bi_tupL, bi_lisT, bi_lisL, bi_repr, bi_all, bi_any, bi_sum, bi_max, bi_min, bi_abs, bi_gcd, in_lst, in_tup, in_dK, in_dT, get_dKi, get_dKs, get_dTt, put_dKi, put_dKs, put_dTt, put_lst, key_int, key_str, keys_nil, keys_cons, slc_tup, slc_lst, slc_scr, end_t, end_f, ty_app, ty_pop, ty_ext, ty_getK, ty_getT, ok_int, ok_str, ok_non, isNop, and_assoc, at_0, at_1, at_2, at_3, mulOk_2, mulOk_r (i := c) (j := 2 * (spot : Int) + 3) (by omega) (by omega)]
    have z1 := Int.emod_nonneg (c * (2 * (spot : Int) + 3) + (seed + 40503 * (spot : Int) * (spot : Int))) (show (2147483647 : Int) ≠ 0 by decide)
    have z2 := Int.emod_lt_of_pos (c * (2 * (spot : Int) + 3) + (seed + 40503 * (spot : Int) * (spot : Int))) (show (0 : Int) < 2147483647 by decide)
    generalize (c * (2 * (spot : Int) + 3) + (seed + 40503 * (spot : Int) * (spot : Int))) % 2147483647 = z at *
    rw [nxt_nx]
    simp [ws_nil, ws_pass, ws_brk, ws_cnt, ws_ret0, ws_cons, nxt_rt, nxt_bk, nxt_ct, ws_asg, ws_put, ws_expr, ws_ret, ws_ite, we_var, we_int, we_str, we_bl, we_non, we_nopart, we_gint, we_gfn, we_bin, we_neg, we_cmp, we_chain, we_andd, we_orr, we_one, we_nott, we_ite, wl_nil, wl_cons, we_tup, we_lst, we_dct, we_dsp, we_call, we_callv, we_bi, we_isi, isiD, we_ix, we_slc, we_rev, we_me, we_frz, we_rng, wf_rt, wf_nx, wr_ok, wr_opt, wr_grd, wr_err, asgD, deref_int, deref_tup, deref_lst, deref_str, deref_bl, deref_non, deref_dK, deref_dT, deref_scr, deref_fn, isObj, bin_add, bin_addS, bin_addT, bin_addL, bin_sub, bin_mul, bin_mulL, bin_mulT, bin_fdiv, bin_mod, bin_pow, cmp_eq, cmp_ne, cmp_lt, cmp_le, cmp_gt, cmp_ge, cmp_isB, cmp_isnotB, cmp_is, cmp_isnot, cmp_inn, cmp_notin, eq_int, eq_str, eq_bl, tru_non, tru_bl, tru_int, tru_tup, tru_lst, tru_dK, ix_tup, ix_lst, ix_dK, ix_dT, bi_lenT, bi_lenL, bi_lenS, bi_int, bi_intB, bi_tupT, bi_tupL, bi_lisT, bi_lisL, bi_repr, bi_all, bi_any, bi_sum, bi_max, bi_min, bi_abs, bi_gcd, in_lst, in_tup, in_dK, in_dT, get_dKi, get_dKs, get_dTt, put_dKi, put_dKs, put_dTt, put_lst, key_int, key_str, keys_nil, keys_cons, slc_tup, slc_lst, slc_scr, end_t, end_f, ty_app, ty_pop, ty_ext, ty_getK, ty_getT, ok_int, ok_str, ok_non, isNop, and_assoc, at_0, at_1, at_2, at_3, d2, l6_seed, mulOk_l (i := z) (j := z) (by omega) (by omega), mulOk_l (i := 69621) (j := (spot : Int)) (by decide) (by decide)]
    rw [nxt_nx]
    simp [ws_nil, ws_pass, ws_brk, ws_cnt, ws_ret0, ws_cons, nxt_rt, nxt_bk, nxt_ct, ws_asg, ws_put, ws_expr, ws_ret, ws_ite, we_var, we_int, we_str, we_bl, we_non, we_nopart, we_gint, we_gfn, we_bin, we_neg, we_cmp, we_chain, we_andd, we_orr, we_one, we_nott, we_ite, wl_nil, wl_cons, we_tup, we_lst, we_dct, we_dsp, we_call, we_callv, we_bi, we_isi, isiD, we_ix, we_slc, we_rev, we_me, we_frz, we_rng, wf_rt, wf_nx, wr_ok, wr_opt, wr_grd, wr_err, asgD, deref_int, deref_tup, deref_lst, deref_str, deref_bl, deref_non, deref_dK, deref_dT, deref_scr, deref_fn, isObj, bin_add, bin_addS, bin_addT, bin_addL, bin_sub, bin_mul, bin_mulL, bin_mulT, bin_fdiv, bin_mod, bin_pow, cmp_eq, cmp_ne, cmp_lt, cmp_le, cmp_gt, cmp_ge, cmp_isB, cmp_isnotB, cmp_is, cmp_isnot, cmp_inn, cmp_notin, eq_int, eq_str, eq_bl, tru_non, tru_bl, tru_int, tru_tup, tru_lst, tru_dK, ix_tup, ix_lst, ix_dK, ix_dT, bi_lenT, bi_lenL, bi_lenS, bi_int, bi_intB, bi_tupT, bi_tupL, bi_lisT, bi_lisL, bi_repr, bi_all, bi_any, bi_sum, bi_max, bi_min, bi_abs, bi_gcd, in_lst, in_tup, in_dK, in_dT, get_dKi, get_dKs, get_dTt, put_dKi, put_dKs, put_dTt, put_lst, key_int, key_str, keys_nil, keys_cons, slc_tup, slc_lst, slc_scr, end_t, end_f, ty_app, ty_pop, ty_ext, ty_getK, ty_getT, ok_int, ok_str, ok_non, isNop, and_assoc, at_0, at_1, at_2, at_3, mulOk_r (j := 48271) (by decide) (by decide), dv11, h0]
    refine wr_fin2 rfl take_set ?_
    exact w _ _ (Int.emod_nonneg _ (by omega)) (Int.emod_lt_of_pos _ h0) ⟨left, seed, cells, spot + 1, nx, qn, rfl, ne, by omega⟩
/-- one of some -/
def ofF (mv : Bool) (j : Nat) : Fn := ⟨2, 2, mv, .cons (.ret (.ix (.var 1) (.call "_law_draw" j (.cons (.var 0) (.cons (.bi .len false (.cons (.var 1) (.nil))) (.nil)))))) (.nil)⟩
theorem m_of {P : List Fn} {mv : Bool} {jd j k b i : Nat} {l : List D} {d : D} {h : MH} {Q : D → MH → Prop} (hD : P[jd]? = some drawF) (hP : P[j]? = some (ofF mv jd)) (hi : h[i]? = some d) (m : Mach6 b d) (hb : b < 1000000000) (h0 : 0 < l.length) (h1 : l.length < 1000000)
    (ok : D.okRs h.length l = true) (w : ∀ (n : Nat) (x : D) (d' : D), l[n]? = some x → Mach6 (b + 1) d' → Q x (h.set i d')) : Wc (callF P (k + 2)) j [.ref i, .lst l] h Q := by
  refine wc_at (fn := ofF mv jd) hP rfl ?_
  simp [ofF, ws_nil, ws_pass, ws_brk, ws_cnt, ws_ret0, ws_cons, nxt_rt, nxt_bk, nxt_ct, ws_asg, ws_put, ws_expr, ws_ret, ws_ite, we_var, we_int, we_str, we_bl, we_non, we_nopart, we_gint, we_gfn, we_bin, we_neg, we_cmp, we_chain, we_andd, we_orr, we_one, we_nott, we_ite, wl_nil, wl_cons, we_tup, we_lst, we_dct, we_dsp, we_call, we_callv, we_bi, we_isi, isiD, we_ix, we_slc, we_rev, we_me, we_frz, we_rng, wf_rt, wf_nx, wr_ok, wr_opt, wr_grd, wr_err, asgD, deref_int, deref_tup, deref_lst, deref_str, deref_bl, deref_non, deref_dK, deref_dT, deref_scr, deref_fn, isObj, bin_add, bin_addS, bin_addT, bin_addL, bin_sub, bin_mul, bin_mulL, bin_mulT, bin_fdiv, bin_mod, bin_pow, cmp_eq, cmp_ne, cmp_lt, cmp_le, cmp_gt, cmp_ge, cmp_isB, cmp_isnotB, cmp_is, cmp_isnot, cmp_inn, cmp_notin, eq_int, eq_str, eq_bl, tru_non, tru_bl, tru_int, tru_tup, tru_lst, tru_dK, ix_tup, ix_lst, ix_dK, ix_dT, bi_lenT, bi_lenL, bi_lenS, bi_int, bi_intB, bi_tupT, bi_tupL, bi_lisT, bi_lisL, bi_repr, bi_all, bi_any, bi_sum, bi_max, bi_min, bi_abs, bi_gcd, in_lst, in_tup, in_dK, in_dT, get_dKi, get_dKs, get_dTt, put_dKi, put_dKs, put_dTt, put_lst, key_int, key_str, keys_nil, keys_cons, slc_tup, slc_lst, slc_scr, end_t, end_f, ty_app, ty_pop, ty_ext, ty_getK, ty_getT, ok_int, ok_str, ok_non, isNop, and_assoc, at_0, at_1, at_2, at_3]
  refine m_draw hD hi m hb (by omega) (by omega) fun r d' r0 r1 m' => ?_
  obtain ⟨n, rfl⟩ := Int.eq_ofNat_of_zero_le r0
  have hn : n < l.length := by omega
  refine ⟨l[n], at_nat (List.getElem?_eq_getElem hn), ?_⟩
  have okx : D.okR h.length l[n] = true := by
    have key : ∀ (l : List D) (n : Nat) (hn : n < l.length), D.okRs h.length l = true → D.okR h.length l[n] = true := by
      intro l
      induction l with
      | nil => intro n hn; exact absurd hn (Nat.not_lt_zero _)
      | cons x l ih =>
        intro n hn ok
        have ok' : (D.okR h.length x && D.okRs h.length l) = true := ok
        rw [Bool.and_eq_true] at ok'
        cases n with
        | zero => exact ok'.1
        | succ n => exact ih n (by simpa using hn) ok'.2
    exact key l n hn ok
  show Wr (finish _ _ _ _) Q
  exact wr_fin2 okx take_set (w n _ d' (List.getElem?_eq_getElem hn) m')
/-! #### begun -/
theorem int_at {l : List Int} {i : Nat} {x : D} (h : (l.map D.int)[i]? = some x) : ∃ d, x = .int d ∧ l[i]? = some d := by
  rw [List.getElem?_map] at h
  cases e : l[i]? with
  | none => rw [e] at h; cases h
  | some d =>
    rw [e] at h
    exact ⟨d, (Option.some.inj h).symm, rfl⟩
theorem cut_intl (l : List Int) (lo hi : Option Int) : ∃ c : List Int, cutD (l.map .int) lo hi = c.map .int ∧ c.length ≤ l.length := by
  refine ⟨(l.drop (HT.sIx l.length 0 lo)).take (HT.sIx l.length l.length hi - HT.sIx l.length 0 lo), ?_, ?_⟩
  · unfold cutD
    rw [List.length_map, List.map_take, List.map_drop]
  · rw [List.length_take, List.length_drop]; omega
theorem wr_made {h : MH} {o : D} {Q : D → MH → Prop} (ok : o.okR h.length = true) (io : isObj o = true) (q : Q (.ref h.length) (h ++ [o])) : Wr (finish true h.length (.ref h.length) (h ++ [o])) Q := by
  have e : finish true h.length (.ref h.length) (h ++ [o]) = .ok (.ref h.length, h ++ [o]) := by
    unfold finish
    have n : D.okR h.length (.ref h.length) = false := by unfold D.okR; exact decide_eq_false (Nat.lt_irrefl _)
    rw [if_neg (by rw [n]; simp), if_pos rfl]
    dsimp only
    rw [get_o]
    show grd (o.okR h.length && isObj o) _ = _
    rw [ok, io, take_app]
    rfl
  rw [e]
  exact wr_ok.mpr q
theorem nd6 : (([.inr "left", .inr "seed", .inr "cells", .inr "spot", .inr "next", .inr "quants"] : List L2.Key)).Nodup := keys6_nd
/-- the text of the begun source, but for its numbers -/
def begunF (c0 c1 c2 c3 : Int) : Fn := ⟨2, 7, true,
  .cons (.asg (.name 2) (.bin .add false (.slc false (.var 0) (.var 1) (.nopart)) (.slc false (.var 0) (.nopart) (.var 1)))) (.cons (.asg (.name 3) (.lc false [4] (.name 4) (.var 0) (.cmp .ge (.var 4) (.bin .pow false (.int 10) (.int 18))) (.var 4))) (.cons (.asg (.name 5) (.bin .add false (.int c0) (.bin .mul false (.int c1) (.var 1)))) (.cons (.forr (.name 4) (.var 2) (.cons (.asg (.name 5) (.bin .mod false (.bi .int false (.cons (.bin .add false (.bin .mul false (.var 5) (.int 48271)) (.var 4)) (.nil))) (.int 2147483647))) (.nil))) (.cons (.asg (.name 6) (.ite (.cmp .lt (.var 1) (.bi .len false (.cons (.var 3) (.nil)))) (.ix (.var 3) (.var 1)) (.int 0))) (.cons (.ret (.dsp true [.inr "left", .inr "seed", .inr "cells", .inr "spot", .inr "next", .inr "quants"] (.cons (.var 6) (.cons (.var 5) (.cons (.bin .add false (.var 2) (.lst false (.cons (.bin .add false (.bin .mul false (.int c2) (.var 1)) (.int c3)) (.nil)))) (.cons (.int 0) (.cons (.int 0) (.cons (.int 3) (.nil))))))))) (.nil))))))⟩
theorem m_begun {P : List Fn} {j k : Nat} {c0 c1 c2 c3 : Int} {ns : List Int} {i : Nat} {h : MH} {Q : D → MH → Prop} (hP : P[j]? = some (begunF c0 c1 c2 c3)) (b1 : mulOk c1 i = true) (b2 : mulOk c2 i = true) (hn : ns.length ≤ 63)
    (w : ∀ m, Mach6 0 m → Q (.ref h.length) (h ++ [m])) : Wc (callF P (k + 1)) j [.scr (ns.map .int), .int i] h Q := by
  obtain ⟨a1, e1, l1⟩ := cut_intl ns (some i) none
  obtain ⟨a2, e2, l2⟩ := cut_intl ns none (some i)
  refine wc_at (fn := begunF c0 c1 c2 c3) hP rfl ?_
  have hz : a1.length + a2.length ≤ szL := by unfold szL; omega
  simp [begunF, ws_nil, ws_pass, ws_brk, ws_cnt, ws_ret0, ws_cons, nxt_rt, nxt_bk, nxt_ct, ws_asg, ws_put, ws_expr, ws_ret, ws_ite, we_var, we_int, we_str, we_bl, we_non, we_nopart, we_gint, we_gfn, we_bin, we_neg, we_cmp, we_chain, we_andd, we_orr, we_one, we_nott, we_ite, wl_nil, wl_cons, we_tup, we_lst, we_dct, we_dsp, we_call, we_callv, we_bi, we_isi, isiD, we_ix, we_slc, we_rev, we_me, we_frz, we_rng, wf_rt, wf_nx, wr_ok, wr_opt, wr_grd, wr_err, asgD, deref_int, deref_tup, deref_lst, deref_str, deref_bl, deref_non, deref_dK, deref_dT, deref_scr, deref_fn, isObj, bin_add, bin_addS, bin_addT, bin_addL, bin_sub, bin_mul, bin_mulL, bin_mulT, bin_fdiv, bin_mod, bin_pow, cmp_eq, cmp_ne, cmp_lt, cmp_le, cmp_gt, cmp_ge, cmp_isB, cmp_isnotB, cmp_is, cmp_isnot, cmp_inn, cmp_notin, eq_int, eq_str, eq_bl, tru_non, tru_bl, tru_int, tru_tup, tru_lst, tru_dK, ix_tup, ix_lst, ix_dK, ix_dT, bi_lenT, bi_lenL, bi_lenS, bi_int, bi_intB, bi_tupT, bi_tupL, bi_lisT, bi_lisL, bi_repr, bi_all, bi_any, bi_sum, bi_max, bi_min, bi_abs, bi_gcd, in_lst, in_tup, in_dK, in_dT, get_dKi, get_dKs, get_dTt, put_dKi, put_dKs, put_dTt, put_lst, key_int, key_str, keys_nil, keys_cons, slc_tup, slc_lst, slc_scr, end_t, end_f, ty_app, ty_pop, ty_ext, ty_getK, ty_getT, ok_int, ok_str, ok_non, isNop, and_assoc, at_0, at_1, at_2, at_3, e1, e2, hz]
  rw [nxt_nx, ws_cons, ws_asg]
  refine we_lcI (I := fun j acc h2 => ∃ g : List Int, acc = g.map .int ∧ g.length ≤ j ∧ h2 = h) ?_
  rw [we_var]
  refine ⟨_, rfl, ns.map .int, rfl, by rw [List.length_map]; unfold szL; omega, ⟨[], rfl, Nat.le_refl _, rfl⟩, ?_, ?_⟩
  · rintro j x acc h2 hx ⟨g, rfl, hg, rfl⟩
    obtain ⟨v, rfl, _⟩ := int_at hx
    refine ⟨_, rfl, ?_⟩
    have hp : powOk 10 18 = true := by decide
    simp [ws_nil, ws_pass, ws_brk, ws_cnt, ws_ret0, ws_cons, nxt_rt, nxt_bk, nxt_ct, ws_asg, ws_put, ws_expr, ws_ret, ws_ite, we_var, we_int, we_str, we_bl, we_non, we_nopart, we_gint, we_gfn, we_bin, we_neg, we_cmp, we_chain, we_andd, we_orr, we_one, we_nott, we_ite, wl_nil, wl_cons, we_tup, we_lst, we_dct, we_dsp, we_call, we_callv, we_bi, we_isi, isiD, we_ix, we_slc, we_rev, we_me, we_frz, we_rng, wf_rt, wf_nx, wr_ok, wr_opt, wr_grd, wr_err, asgD, deref_int, deref_tup, deref_lst, deref_str, deref_bl, deref_non, deref_dK, deref_dT, deref_scr, deref_fn, isObj, bin_add, bin_addS, bin_addT, bin_addL, bin_sub, bin_mul, bin_mulL, bin_mulT, bin_fdiv, bin_mod, bin_pow, cmp_eq, cmp_ne, cmp_lt, cmp_le, cmp_gt, cmp_ge, cmp_isB, cmp_isnotB, cmp_is, cmp_isnot, cmp_inn, cmp_notin, eq_int, eq_str, eq_bl, tru_non, tru_bl, tru_int, tru_tup, tru_lst, tru_dK, ix_tup, ix_lst, ix_dK, ix_dT, bi_lenT, bi_lenL, bi_lenS, bi_int, bi_intB, bi_tupT, bi_tupL, bi_lisT, bi_lisL, bi_repr, bi_all, bi_any, bi_sum, bi_max, bi_min, bi_abs, bi_gcd, in_lst, in_tup, in_dK, in_dT, get_dKi, get_dKs, get_dTt, put_dKi, put_dKs, put_dTt, put_lst, key_int, key_str, keys_nil, keys_cons, slc_tup, slc_lst, slc_scr, end_t, end_f, ty_app, ty_pop, ty_ext, ty_getK, ty_getT, ok_int, ok_str, ok_non, isNop, and_assoc, at_0, at_1, at_2, at_3, hp, wipeD]
    by_cases hv : 1000000000000000000 ≤ v
    · have hv2 : ¬ v < 1000000000000000000 := by omega
      simp [hv, hv2]
      exact ⟨g ++ [v], by simp, by rw [List.length_append]; simp; omega⟩
    · have hv2 : v < 1000000000000000000 := by omega
      simp [hv, hv2]
      exact ⟨g, rfl, by omega⟩
  rintro L h2 ⟨g, rfl, hg, rfl⟩
  simp [ws_nil, ws_pass, ws_brk, ws_cnt, ws_ret0, ws_cons, nxt_rt, nxt_bk, nxt_ct, ws_asg, ws_put, ws_expr, ws_ret, ws_ite, we_var, we_int, we_str, we_bl, we_non, we_nopart, we_gint, we_gfn, we_bin, we_neg, we_cmp, we_chain, we_andd, we_orr, we_one, we_nott, we_ite, wl_nil, wl_cons, we_tup, we_lst, we_dct, we_dsp, we_call, we_callv, we_bi, we_isi, isiD, we_ix, we_slc, we_rev, we_me, we_frz, we_rng, wf_rt, wf_nx, wr_ok, wr_opt, wr_grd, wr_err, asgD, deref_int, deref_tup, deref_lst, deref_str, deref_bl, deref_non, deref_dK, deref_dT, deref_scr, deref_fn, isObj, bin_add, bin_addS, bin_addT, bin_addL, bin_sub, bin_mul, bin_mulL, bin_mulT, bin_fdiv, bin_mod, bin_pow, cmp_eq, cmp_ne, cmp_lt, cmp_le, cmp_gt, cmp_ge, cmp_isB, cmp_isnotB, cmp_is, cmp_isnot, cmp_inn, cmp_notin, eq_int, eq_str, eq_bl, tru_non, tru_bl, tru_int, tru_tup, tru_lst, tru_dK, ix_tup, ix_lst, ix_dK, ix_dT, bi_lenT, bi_lenL, bi_lenS, bi_int, bi_intB, bi_tupT, bi_tupL, bi_lisT, bi_lisL, bi_repr, bi_all, bi_any, bi_sum, bi_max, bi_min, bi_abs, bi_gcd, in_lst, in_tup, in_dK, in_dT, get_dKi, get_dKs, get_dTt, put_dKi, put_dKs, put_dTt, put_lst, key_int, key_str, keys_nil, keys_cons, slc_tup, slc_lst, slc_scr, end_t, end_f, ty_app, ty_pop, ty_ext, ty_getK, ty_getT, ok_int, ok_str, ok_non, isNop, and_assoc, at_0, at_1, at_2, at_3]
  rw [nxt_nx]
  simp [ws_nil, ws_pass, ws_brk, ws_cnt, ws_ret0, ws_cons, nxt_rt, nxt_bk, nxt_ct, ws_asg, ws_put, ws_expr, ws_ret, ws_ite, we_var, we_int, we_str, we_bl, we_non, we_nopart, we_gint, we_gfn, we_bin, we_neg, we_cmp, we_chain, we_andd, we_orr, we_one, we_nott, we_ite, wl_nil, wl_cons, we_tup, we_lst, we_dct, we_dsp, we_call, we_callv, we_bi, we_isi, isiD, we_ix, we_slc, we_rev, we_me, we_frz, we_rng, wf_rt, wf_nx, wr_ok, wr_opt, wr_grd, wr_err, asgD, deref_int, deref_tup, deref_lst, deref_str, deref_bl, deref_non, deref_dK, deref_dT, deref_scr, deref_fn, isObj, bin_add, bin_addS, bin_addT, bin_addL, bin_sub, bin_mul, bin_mulL, bin_mulT, bin_fdiv, bin_mod, bin_pow, cmp_eq, cmp_ne, cmp_lt, cmp_le, cmp_gt, cmp_ge, cmp_isB, cmp_isnotB, cmp_is, cmp_isnot, cmp_inn, cmp_notin, eq_int, eq_str, eq_bl, tru_non, tru_bl, tru_int, tru_tup, tru_lst, tru_dK, ix_tup, ix_lst, ix_dK, ix_dT, bi_lenT, bi_lenL, bi_lenS, bi_int, bi_intB, bi_tupT, bi_tupL, bi_lisT, bi_lisL, bi_repr, bi_all, bi_any, bi_sum, bi_max, bi_min, bi_abs, bi_gcd, in_lst, in_tup, in_dK, in_dT, get_dKi, get_dKs, get_dTt, put_dKi, put_dKs, put_dTt, put_lst, key_int, key_str, keys_nil, keys_cons, slc_tup, slc_lst, slc_scr, end_t, end_f, ty_app, ty_pop, ty_ext, ty_getK, ty_getT, ok_int, ok_str, ok_non, isNop, and_assoc, at_0, at_1, at_2, at_3, b1]
  rw [nxt_nx, ws_cons]
  refine ws_for (I := fun j σ h' => ∃ (e : Option D) (u : Int), σ = [some (.scr (ns.map .int)), some (.int i), some (.lst (a1.map .int ++ a2.map .int)), some (.lst (g.map .int)), e, some (.int u), none] ∧ h' = h2) (w := .lst (a1.map .int ++ a2.map .int)) (l := a1.map .int ++ a2.map .int) (h1 := h2) rfl rfl ⟨_, _, rfl, rfl⟩ ?_ ?_
  · rintro j x σ h' hx ⟨e, u, rfl, rfl⟩
    rw [← List.map_append] at hx
    obtain ⟨v, rfl, _⟩ := int_at hx
    refine ⟨_, rfl, ?_⟩
    simp [ws_nil, ws_pass, ws_brk, ws_cnt, ws_ret0, ws_cons, nxt_rt, nxt_bk, nxt_ct, ws_asg, ws_put, ws_expr, ws_ret, ws_ite, we_var, we_int, we_str, we_bl, we_non, we_nopart, we_gint, we_gfn, we_bin, we_neg, we_cmp, we_chain, we_andd, we_orr, we_one, we_nott, we_ite, wl_nil, wl_cons, we_tup, we_lst, we_dct, we_dsp, we_call, we_callv, we_bi, we_isi, isiD, we_ix, we_slc, we_rev, we_me, we_frz, we_rng, wf_rt, wf_nx, wr_ok, wr_opt, wr_grd, wr_err, asgD, deref_int, deref_tup, deref_lst, deref_str, deref_bl, deref_non, deref_dK, deref_dT, deref_scr, deref_fn, isObj, bin_add, bin_addS, bin_addT, bin_addL, bin_sub, bin_mul, bin_mulL, bin_mulT, bin_fdiv, bin_mod, bin_pow, cmp_eq, cmp_ne, cmp_lt, cmp_le, cmp_gt, cmp_ge, cmp_isB, cmp_isnotB, cmp_is, cmp_isnot, cmp_inn, cmp_notin, eq_int, eq_str, eq_bl, tru_non, tru_bl, tru_int, tru_tup, tru_lst, tru_dK, ix_tup, ix_lst, ix_dK, ix_dT, bi_lenT, bi_lenL, bi_lenS, bi_int, bi_intB, bi_tupT, bi_tupL, bi_lisT, bi_lisL, bi_repr, bi_all, bi_any, bi_sum, bi_max, bi_min, bi_abs, bi_gcd, in_lst, in_tup, in_dK, in_dT, get_dKi, get_dKs, get_dTt, put_dKi, put_dKs, put_dTt, put_lst, key_int, key_str, keys_nil, keys_cons, slc_tup, slc_lst, slc_scr, end_t, end_f, ty_app, ty_pop, ty_ext, ty_getK, ty_getT, ok_int, ok_str, ok_non, isNop, and_assoc, at_0, at_1, at_2, at_3, mulOk_r (i := u) (j := 48271) (by decide) (by decide)]
    rw [nxt_nx, ws_nil]
    exact ⟨⟨_, _, rfl⟩, rfl⟩
  rintro σ h' ⟨e, u, rfl, rfl⟩
  rw [nxt_nx]
  have hz2 : a1.length + a2.length ≤ 16777215 := by omega
  have fin : ∀ left : Int, nxt (callF P k) (.cons (.ret (.dsp true [.inr "left", .inr "seed", .inr "cells", .inr "spot", .inr "next", .inr "quants"] (.cons (.var 6) (.cons (.var 5) (.cons (.bin .add false (.var 2) (.lst false (.cons (.bin .add false (.bin .mul false (.int c2) (.var 1)) (.int c3)) (.nil)))) (.cons (.int 0) (.cons (.int 0) (.cons (.int 3) (.nil))))))))) .nil) (Wf true h'.length Q) .nx
      [some (.scr (ns.map .int)), some (.int i), some (.lst (a1.map .int ++ a2.map .int)), some (.lst (g.map .int)), e, some (.int u), some (.int left)] h' := fun left => by
    have m : Mach6 0 (.dK [.inr "left", .inr "seed", .inr "cells", .inr "spot", .inr "next", .inr "quants"] [.int left, .int u, .lst (a1.map .int ++ (a2.map .int ++ [.int (c2 * i + c3)])), .int 0, .int 0, .int 3]) :=
      ⟨left, u, a1 ++ (a2 ++ [c2 * (i : Int) + c3]), 0, 0, 3, by simp [machS, keys6], by simp, Nat.le_refl _⟩
    rw [nxt_nx, ws_cons, ws_ret, we_dsp]
    simp [ws_nil, ws_pass, ws_brk, ws_cnt, ws_ret0, ws_cons, nxt_rt, nxt_bk, nxt_ct, ws_asg, ws_put, ws_expr, ws_ret, ws_ite, we_var, we_int, we_str, we_bl, we_non, we_nopart, we_gint, we_gfn, we_bin, we_neg, we_cmp, we_chain, we_andd, we_orr, we_one, we_nott, we_ite, wl_nil, wl_cons, we_tup, we_lst, we_dct, we_dsp, we_call, we_callv, we_bi, we_isi, isiD, we_ix, we_slc, we_rev, we_me, we_frz, we_rng, wf_rt, wf_nx, wr_ok, wr_opt, wr_grd, wr_err, asgD, deref_int, deref_tup, deref_lst, deref_str, deref_bl, deref_non, deref_dK, deref_dT, deref_scr, deref_fn, isObj, bin_add, bin_addS, bin_addT, bin_addL, bin_sub, bin_mul, bin_mulL, bin_mulT, bin_fdiv, bin_mod, bin_pow, cmp_eq, cmp_ne, cmp_lt, cmp_le, cmp_gt, cmp_ge, cmp_isB, cmp_isnotB, cmp_is, cmp_isnot, cmp_inn, cmp_notin, eq_int, eq_str, eq_bl, tru_non, tru_bl, tru_int, tru_tup, tru_lst, tru_dK, ix_tup, ix_lst, ix_dK, ix_dT, bi_lenT, bi_lenL, bi_lenS, bi_int, bi_intB, bi_tupT, bi_tupL, bi_lisT, bi_lisL, bi_repr, bi_all, bi_any, bi_sum, bi_max, bi_min, bi_abs, bi_gcd, in_lst, in_tup, in_dK, in_dT, get_dKi, get_dKs, get_dTt, put_dKi, put_dKs, put_dTt, put_lst, key_int, key_str, keys_nil, keys_cons, slc_tup, slc_lst, slc_scr, end_t, end_f, ty_app, ty_pop, ty_ext, ty_getK, ty_getT, ok_int, ok_str, ok_non, isNop, and_assoc, at_0, at_1, at_2, at_3, szL, b2, hz2]
    exact ⟨by decide +kernel, by decide +kernel, by decide +kernel, by decide +kernel, by decide +kernel, by decide +kernel, by decide +kernel, by decide +kernel, by decide +kernel, by decide +kernel, by decide +kernel, by decide +kernel, by decide +kernel, by decide +kernel, by decide +kernel, wr_made (m.ok _) m.obj (w _ m)⟩
  by_cases hg2 : i < g.length
  · simp [ws_nil, ws_pass, ws_brk, ws_cnt, ws_ret0, ws_cons, nxt_rt, nxt_bk, nxt_ct, ws_asg, ws_put, ws_expr, ws_ret, ws_ite, we_var, we_int, we_str, we_bl, we_non, we_nopart, we_gint, we_gfn, we_bin, we_neg, we_cmp, we_chain, we_andd, we_orr, we_one, we_nott, we_ite, wl_nil, wl_cons, we_tup, we_lst, we_dct, we_dsp, we_call, we_callv, we_bi, we_isi, isiD, we_ix, we_slc, we_rev, we_me, we_frz, we_rng, wf_rt, wf_nx, wr_ok, wr_opt, wr_grd, wr_err, asgD, deref_int, deref_tup, deref_lst, deref_str, deref_bl, deref_non, deref_dK, deref_dT, deref_scr, deref_fn, isObj, bin_add, bin_addS, bin_addT, bin_addL, bin_sub, bin_mul, bin_mulL, bin_mulT, bin_fdiv, bin_mod, bin_pow, cmp_eq, cmp_ne, cmp_lt, cmp_le, cmp_gt, cmp_ge, cmp_isB, cmp_isnotB, cmp_is, cmp_isnot, cmp_inn, cmp_notin, eq_int, eq_str, eq_bl, tru_non, tru_bl, tru_int, tru_tup, tru_lst, tru_dK, ix_tup, ix_lst, ix_dK, ix_dT, bi_lenT, bi_lenL, bi_lenS, bi_int, bi_intB, bi_tupT, bi_tupL, bi_lisT, bi_lisL, bi_repr, bi_all, bi_any, bi_sum, bi_max, bi_min, bi_abs, bi_gcd, in_lst, in_tup, in_dK, in_dT, get_dKi, get_dKs, get_dTt, put_dKi, put_dKs, put_dTt, put_lst, key_int, key_str, keys_nil, keys_cons, slc_tup, slc_lst, slc_scr, end_t, end_f, ty_app, ty_pop, ty_ext, ty_getK, ty_getT, ok_int, ok_str, ok_non, isNop, and_assoc, at_0, at_1, at_2, at_3, hg2]
    exact ⟨.int g[i], at_nat (by rw [List.getElem?_map, List.getElem?_eq_getElem hg2]; rfl), fin _⟩
  · have hg3 : g.length ≤ i := by omega
    simp [ws_nil, ws_pass, ws_brk, ws_cnt, ws_ret0, ws_cons, nxt_rt, nxt_bk, nxt_ct, ws_asg, ws_put, ws_expr, ws_ret, ws_ite, we_var, we_int, we_str, we_bl, we_non, we_nopart, we_gint, we_gfn, we_bin, we_neg, we_cmp, we_chain, we_andd, we_orr, we_one, we_nott, we_ite, wl_nil, wl_cons, we_tup, we_lst, we_dct, we_dsp, we_call, we_callv, we_bi, we_isi, isiD, we_ix, we_slc, we_rev, we_me, we_frz, we_rng, wf_rt, wf_nx, wr_ok, wr_opt, wr_grd, wr_err, asgD, deref_int, deref_tup, deref_lst, deref_str, deref_bl, deref_non, deref_dK, deref_dT, deref_scr, deref_fn, isObj, bin_add, bin_addS, bin_addT, bin_addL, bin_sub, bin_mul, bin_mulL, bin_mulT, bin_fdiv, bin_mod, bin_pow, cmp_eq, cmp_ne, cmp_lt, cmp_le, cmp_gt, cmp_ge, cmp_isB, cmp_isnotB, cmp_is, cmp_isnot, cmp_inn, cmp_notin, eq_int, eq_str, eq_bl, tru_non, tru_bl, tru_int, tru_tup, tru_lst, tru_dK, ix_tup, ix_lst, ix_dK, ix_dT, bi_lenT, bi_lenL, bi_lenS, bi_int, bi_intB, bi_tupT, bi_tupL, bi_lisT, bi_lisL, bi_repr, bi_all, bi_any, bi_sum, bi_max, bi_min, bi_abs, bi_gcd, in_lst, in_tup, in_dK, in_dT, get_dKi, get_dKs, get_dTt, put_dKi, put_dKs, put_dTt, put_lst, key_int, key_str, keys_nil, keys_cons, slc_tup, slc_lst, slc_scr, end_t, end_f, ty_app, ty_pop, ty_ext, ty_getK, ty_getT, ok_int, ok_str, ok_non, isNop, and_assoc, at_0, at_1, at_2, at_3, hg2, hg3]
    exact fin 0
end Mi
/-! Mi: short words for running; comprehensions that change nothing; == of plain data. -/
namespace Mi
open PySem (PyData Str)
/-! #### comprehensions that change nothing -/
section
variable {call : Caller} {σ : Env} {h : MH} {Q : D → MH → Prop} {α : Type}
theorem we_map {own : List Nat} {t : Tg} {it e : Ex} {m : Bool} (xs : List α) (en f : α → D)
    (w : We call it σ h fun w h1 => itrOf w h1 = some (.things (xs.map en)) ∧ xs.length ≤ szL ∧
      (∀ (i : Nat) (x : α), xs[i]? = some x → ∃ σ1, asgD t (en x) (wipeD σ own) = some σ1 ∧ We call e σ1 h1 fun d h4 => d = f x ∧ h4 = h1) ∧
      if m = true then Q (.ref h1.length) (h1 ++ [.lst (xs.map f)]) else Q (.lst (xs.map f)) h1) : We call (.lc m own t it (.bl true) e) σ h Q := by
  obtain ⟨d0, h1, e0, e1, e2, st, fin⟩ := w
  refine we_lcI (I := fun j acc h2 => acc = (xs.take j).map f ∧ h2 = h1) ?_
  refine ⟨d0, h1, e0, xs.map en, e1, by rw [List.length_map]; exact e2, ⟨rfl, rfl⟩, ?_, ?_⟩
  · rintro j x acc h2 hx ⟨rfl, rfl⟩
    rw [List.getElem?_map] at hx
    cases hs : xs[j]? with
    | none => rw [hs] at hx; cases hx
    | some a =>
      rw [hs] at hx
      cases hx
      obtain ⟨σ1, q1, q2⟩ := st j a hs
      refine ⟨σ1, q1, ?_⟩
      rw [we_bl]
      refine ⟨true, rfl, ?_⟩
      rw [if_pos rfl]
      refine q2.mono ?_
      rintro d h4 ⟨rfl, rfl⟩
      refine ⟨?_, rfl⟩
      rw [List.take_add_one, hs, List.map_append]; rfl
  · rintro L h2 ⟨rfl, rfl⟩
    rw [List.length_map, List.take_length]
    exact fin
theorem we_filt {own : List Nat} {t : Tg} {it c e : Ex} {m : Bool} (xs : List α) (en f : α → D) (p : α → Bool)
    (w : We call it σ h fun w h1 => itrOf w h1 = some (.things (xs.map en)) ∧ xs.length ≤ szL ∧
      (∀ (i : Nat) (x : α), xs[i]? = some x → ∃ σ1, asgD t (en x) (wipeD σ own) = some σ1 ∧ We call c σ1 h1 fun b h3 => h3 = h1 ∧ truD (deref h1 b) = some (p x) ∧ (p x = true → We call e σ1 h1 fun d h4 => d = f x ∧ h4 = h1)) ∧
      if m = true then Q (.ref h1.length) (h1 ++ [.lst ((xs.filter p).map f)]) else Q (.lst ((xs.filter p).map f)) h1) : We call (.lc m own t it c e) σ h Q := by
  obtain ⟨d0, h1, e0, e1, e2, st, fin⟩ := w
  refine we_lcI (I := fun j acc h2 => acc = ((xs.take j).filter p).map f ∧ h2 = h1) ?_
  refine ⟨d0, h1, e0, xs.map en, e1, by rw [List.length_map]; exact e2, ⟨rfl, rfl⟩, ?_, ?_⟩
  · rintro j x acc h2 hx ⟨rfl, rfl⟩
    rw [List.getElem?_map] at hx
    cases hs : xs[j]? with
    | none => rw [hs] at hx; cases hx
    | some a =>
      rw [hs] at hx
      cases hx
      obtain ⟨σ1, q1, q2⟩ := st j a hs
      refine ⟨σ1, q1, q2.mono ?_⟩
      rintro b h3 ⟨rfl, q3, q4⟩
      refine ⟨_, q3, ?_⟩
      have tk : (xs.take (j + 1)).filter p = (xs.take j).filter p ++ if p a = true then [a] else [] := by
        rw [List.take_add_one, hs, List.filter_append]
        cases hp : p a <;> simp [hp]
      cases hp : p a with
      | true =>
        rw [if_pos rfl]
        refine (q4 hp).mono ?_
        rintro d h4 ⟨rfl, rfl⟩
        refine ⟨?_, rfl⟩
        rw [tk, hp, List.map_append]; rfl
      | false =>
        rw [if_neg (by simp)]
        refine ⟨?_, rfl⟩
        rw [tk, hp]; simp
  · rintro L h2 ⟨rfl, rfl⟩
    rw [List.length_map, List.take_length]
    exact fin
end
section
variable {call : Caller} {σ : Env} {h : MH} {Q : D → MH → Prop} {α : Type}
/-- the same with the heap as it is, asked in four parts -/
theorem we_mapS {own : List Nat} {t : Tg} {it e : Ex} {m : Bool} (xs : List α) (en f : α → D)
    (e0 : We call it σ h fun w h1 => itrOf w h1 = some (.things (xs.map en)) ∧ h1 = h) (hz : xs.length ≤ szL)
    (st : ∀ (i : Nat) (x : α), xs[i]? = some x → ∃ σ1, asgD t (en x) (wipeD σ own) = some σ1 ∧ We call e σ1 h fun d h4 => d = f x ∧ h4 = h)
    (fin : if m = true then Q (.ref h.length) (h ++ [.lst (xs.map f)]) else Q (.lst (xs.map f)) h) : We call (.lc m own t it (.bl true) e) σ h Q := by
  refine we_map xs en f (e0.mono ?_)
  rintro w h1 ⟨e, rfl⟩
  exact ⟨e, hz, st, fin⟩
theorem we_filtS {own : List Nat} {t : Tg} {it c e : Ex} {m : Bool} (xs : List α) (en f : α → D) (p : α → Bool)
    (e0 : We call it σ h fun w h1 => itrOf w h1 = some (.things (xs.map en)) ∧ h1 = h) (hz : xs.length ≤ szL)
    (st : ∀ (i : Nat) (x : α), xs[i]? = some x → ∃ σ1, asgD t (en x) (wipeD σ own) = some σ1 ∧ We call c σ1 h fun b h3 => h3 = h ∧ truD (deref h b) = some (p x) ∧ (p x = true → We call e σ1 h fun d h4 => d = f x ∧ h4 = h))
    (fin : if m = true then Q (.ref h.length) (h ++ [.lst ((xs.filter p).map f)]) else Q (.lst ((xs.filter p).map f)) h) : We call (.lc m own t it c e) σ h Q := by
  refine we_filt xs en f p (e0.mono ?_)
  rintro w h1 ⟨e, rfl⟩
  exact ⟨e, hz, st, fin⟩
theorem rng1 {n : Int} (h0 : 0 ≤ n) (h1 : n < 2 ^ 62) : rngD [.int n] = some ((List.range n.toNat).map fun (i : Nat) => D.int (0 + i)) := by
  have e : (decide (-(2 ^ 62) ≤ n) && decide (n < 2 ^ 62)) = true := by
    rw [decide_eq_true (show (-(2 ^ 62) : Int) ≤ n by omega), decide_eq_true h1]; rfl
  exact if_pos e
theorem rng_nat {n : Nat} (h : (n : Int) < 2 ^ 62) : rngD [.int (n : Int)] = some ((List.range n).map fun (i : Nat) => D.int i) := by
  rw [rng1 (by omega) h]
  simp
theorem rng_int {n : Int} (h0 : 0 ≤ n) (h : n < 2 ^ 62) : rngD [.int n] = some ((List.range n.toNat).map fun (i : Nat) => D.int i) := by
  rw [rng1 h0 h]
  simp
theorem rng2 {a b : Int} (h0 : 0 ≤ a) (h1 : a < 2 ^ 62) (h2 : 0 ≤ b) (h3 : b < 2 ^ 62) : rngD [.int a, .int b] = some ((List.range (b - a).toNat).map fun (i : Nat) => D.int (a + i)) := by
  have e : (decide (-(2 ^ 62) ≤ a) && decide (a < 2 ^ 62) && decide (-(2 ^ 62) ≤ b) && decide (b < 2 ^ 62)) = true := by
    rw [decide_eq_true (show (-(2 ^ 62) : Int) ≤ a by omega), decide_eq_true h1, decide_eq_true (show (-(2 ^ 62) : Int) ≤ b by omega), decide_eq_true h3]; rfl
  exact if_pos e
theorem rng_two {a b : Nat} (h1 : (a : Int) < 2 ^ 62) (h : (b : Int) < 2 ^ 62) : rngD [.int (a : Int), .int (b : Int)] = some ((List.range (b - a)).map fun (i : Nat) => D.int ((a + i : Nat) : Int)) := by
  rw [rng2 (by omega) h1 (by omega) h]
  have e : ((b : Int) - (a : Int)).toNat = b - a := by omega
  rw [e]
  simp
end
theorem allB_map {α : Type} (p : α → Bool) : ∀ xs : List α, allB (xs.map fun x => .bl (p x)) = some (xs.map p)
  | [] => rfl
  | x :: xs => by
    show (allB (xs.map fun x => .bl (p x))).map _ = _
    rw [allB_map p xs]; rfl
theorem all_map {α : Type} (p : α → Bool) (xs : List α) : biD .all [.lst (xs.map fun x => .bl (p x))] = some (.bl (xs.all p)) := by
  show (allB (xs.map fun x => .bl (p x))).map (fun bs => D.bl (bs.all id)) = _
  rw [allB_map]
  simp [List.all_map, Function.comp_def]
theorem all_true {α : Type} (xs : List α) : biD .all [.lst (xs.map fun _ => .bl true)] = some (.bl true) := by
  have h := all_map (fun _ : α => true) xs
  have e : (xs.all fun _ => true) = true := List.all_eq_true.mpr fun _ _ => rfl
  rw [e] at h
  exact h
theorem any_map {α : Type} (p : α → Bool) (xs : List α) : biD .any [.lst (xs.map fun x => .bl (p x))] = some (.bl (xs.any p)) := by
  show (allB (xs.map fun x => .bl (p x))).map (fun bs => D.bl (bs.any id)) = _
  rw [allB_map]
  simp [List.any_map, Function.comp_def]
theorem allI_map {α : Type} (f : α → Int) : ∀ xs : List α, allI (xs.map fun x => .int (f x)) = some (xs.map f)
  | [] => rfl
  | x :: xs => by
    show (allI (xs.map fun x => .int (f x))).map _ = _
    rw [allI_map f xs]; rfl
theorem sum_map {α : Type} (f : α → Int) (xs : List α) : biD .sum [.lst (xs.map fun x => .int (f x))] = some (.int (xs.map f).sum) := by
  show (allI (xs.map fun x => .int (f x))).map (fun ns => D.int ns.sum) = _
  rw [allI_map]; rfl
/-! #### isinstance, by form -/
section
variable {t : Ty}
theorem isi_non : isiD t .non = some false := rfl
theorem isi_bl {b : Bool} : isiD t (.bl b) = some (decide (t = .int) || decide (t = .bool)) := rfl
theorem isi_int {i : Int} : isiD t (.int i) = some (decide (t = .int)) := rfl
theorem isi_str {x : Str} : isiD t (.str x) = some (decide (t = .str)) := rfl
theorem isi_tup {l : List D} : isiD t (.tup l) = some (decide (t = .tuple)) := rfl
theorem isi_lst {l : List D} : isiD t (.lst l) = some (decide (t = .list)) := rfl
theorem isi_dK {ks : List L2.Key} {l : List D} : isiD t (.dK ks l) = some (decide (t = .dict)) := rfl
theorem isi_dT {ks : List (List L2.Key)} {l : List D} : isiD t (.dT ks l) = some (decide (t = .dict)) := rfl
end
/-! #### the last one -/
theorem at_last {l : List D} {d : D} (h : l[l.length - 1]? = some d) : atD l (-1) = some d := by
  have hl : l.length - 1 < l.length := (List.getElem?_eq_some_iff.mp h).1
  unfold atD L2.atI
  have e : L2.ixN l.length (-1) = some (l.length - 1) := by
    unfold L2.ixN
    rw [if_neg (by decide), if_pos (by omega)]
    congr 1
    omega
  rw [e]
  exact h
/-! #### plain data: == -/
mutual
/-- no bools, no refs -/
def D.pl : D → Bool
  | .non => true
  | .int _ => true
  | .str x => PySem.PyData.canLay0 (.str x)
  | .tup l => D.pls l
  | .lst l => D.pls l
  | .bl _ => false
  | .dK _ _ => false
  | .dT _ _ => false
  | .ref _ => false
  | .fn _ => false
  | .scr _ => false
def D.pls : List D → Bool
  | [] => true
  | d :: r => D.pl d && D.pls r
end
mutual
def D.dp : D → Nat
  | .tup l => D.dps l + 1
  | .lst l => D.dps l + 1
  | .non => 0
  | .int _ => 0
  | .str _ => 0
  | .bl _ => 0
  | .dK _ _ => 0
  | .dT _ _ => 0
  | .ref _ => 0
  | .fn _ => 0
  | .scr _ => 0
def D.dps : List D → Nat
  | [] => 0
  | d :: r => max (D.dp d) (D.dps r)
end
mutual
theorem pl_toP : ∀ d : D, d.pl = true → ∃ p, d.toP = some p ∧ p.canLay0 = true ∧ p.depth = d.dp
  | .non, _ => ⟨.none, by unfold D.toP; rfl, by unfold PyData.canLay0; rfl, by unfold PyData.depth D.dp; rfl⟩
  | .int i, _ => ⟨.int i, by unfold D.toP; rfl, by unfold PyData.canLay0; rfl, by unfold PyData.depth D.dp; rfl⟩
  | .str x, h => ⟨.str x, by unfold D.toP; rfl, by unfold D.pl at h; exact h, by unfold PyData.depth D.dp; rfl⟩
  | .tup l, h => by
    unfold D.pl at h
    obtain ⟨ps, e1, e2, e3⟩ := pls_toP l h
    exact ⟨.tuple ps, by unfold D.toP; rw [e1]; rfl, by unfold PyData.canLay0; exact e2, by unfold PyData.depth D.dp; rw [e3]⟩
  | .lst l, h => by
    unfold D.pl at h
    obtain ⟨ps, e1, e2, e3⟩ := pls_toP l h
    exact ⟨.list ps, by unfold D.toP; rw [e1]; rfl, by unfold PyData.canLay0; exact e2, by unfold PyData.depth D.dp; rw [e3]⟩
  | .bl _, h => by unfold D.pl at h; cases h
  | .dK _ _, h => by unfold D.pl at h; cases h
  | .dT _ _, h => by unfold D.pl at h; cases h
  | .ref _, h => by unfold D.pl at h; cases h
  | .fn _, h => by unfold D.pl at h; cases h
  | .scr _, h => by unfold D.pl at h; cases h
theorem pls_toP : ∀ l : List D, D.pls l = true → ∃ ps, D.toPs l = some ps ∧ PyData.canLayAll0 ps = true ∧ PyData.depthAll ps = D.dps l
  | [], _ => ⟨[], by unfold D.toPs; rfl, by unfold PyData.canLayAll0; rfl, by unfold PyData.depthAll D.dps; rfl⟩
  | d :: l, h => by
    unfold D.pls at h
    rw [Bool.and_eq_true] at h
    obtain ⟨p, e1, e2, e3⟩ := pl_toP d h.1
    obtain ⟨ps, f1, f2, f3⟩ := pls_toP l h.2
    exact ⟨p :: ps, by unfold D.toPs; rw [e1, f1]; rfl, by unfold PyData.canLayAll0; rw [e2, f2]; rfl, by unfold PyData.depthAll D.dps; rw [e3, f3]⟩
end
mutual
theorem pl_eqv : ∀ (d e : D) (p q : PyData), d.pl = true → e.pl = true → d.toP = some p → e.toP = some q → (PyData.eqv p q = true ↔ d = e)
  | .non, e, p, q, _, h, ep, eq => by
    unfold D.toP at ep; cases ep
    cases e <;> first
      | (unfold D.pl at h; cases h; done)
      | (unfold D.toP at eq; first
          | (cases eq; simp [PyData.eqv]; done)
          | (obtain ⟨ps, _, rfl⟩ := Option.map_eq_some_iff.mp eq; simp [PyData.eqv]; done))
  | .int i, e, p, q, _, h, ep, eq => by
    unfold D.toP at ep; cases ep
    cases e <;> first
      | (unfold D.pl at h; cases h; done)
      | (unfold D.toP at eq; first
          | (cases eq; simp [PyData.eqv]; done)
          | (obtain ⟨ps, _, rfl⟩ := Option.map_eq_some_iff.mp eq; simp [PyData.eqv]; done))
  | .str x, e, p, q, _, h, ep, eq => by
    unfold D.toP at ep; cases ep
    cases e <;> first
      | (unfold D.pl at h; cases h; done)
      | (unfold D.toP at eq; first
          | (cases eq; simp [PyData.eqv]; done)
          | (obtain ⟨ps, _, rfl⟩ := Option.map_eq_some_iff.mp eq; simp [PyData.eqv]; done))
  | .tup l, e, p, q, g, h, ep, eq => by
    unfold D.toP at ep
    obtain ⟨ps, e1, rfl⟩ := Option.map_eq_some_iff.mp ep
    cases e <;> first
      | (unfold D.pl at h; cases h; done)
      | (unfold D.toP at eq; first
          | (cases eq; simp [PyData.eqv]; done)
          | (obtain ⟨qs, e2, rfl⟩ := Option.map_eq_some_iff.mp eq
             unfold D.pl at g h
             have := pls_eqv l _ ps qs g h e1 e2
             simp [PyData.eqv, this]; done)
          | (obtain ⟨qs, e2, rfl⟩ := Option.map_eq_some_iff.mp eq; simp [PyData.eqv]; done))
  | .lst l, e, p, q, g, h, ep, eq => by
    unfold D.toP at ep
    obtain ⟨ps, e1, rfl⟩ := Option.map_eq_some_iff.mp ep
    cases e <;> first
      | (unfold D.pl at h; cases h; done)
      | (unfold D.toP at eq; first
          | (cases eq; simp [PyData.eqv]; done)
          | (obtain ⟨qs, e2, rfl⟩ := Option.map_eq_some_iff.mp eq
             unfold D.pl at g h
             have := pls_eqv l _ ps qs g h e1 e2
             simp [PyData.eqv, this]; done)
          | (obtain ⟨qs, e2, rfl⟩ := Option.map_eq_some_iff.mp eq; simp [PyData.eqv]; done))
  | .bl _, _, _, _, g, _, _, _ => by unfold D.pl at g; cases g
  | .dK _ _, _, _, _, g, _, _, _ => by unfold D.pl at g; cases g
  | .dT _ _, _, _, _, g, _, _, _ => by unfold D.pl at g; cases g
  | .ref _, _, _, _, g, _, _, _ => by unfold D.pl at g; cases g
  | .fn _, _, _, _, g, _, _, _ => by unfold D.pl at g; cases g
  | .scr _, _, _, _, g, _, _, _ => by unfold D.pl at g; cases g
theorem pls_eqv : ∀ (l r : List D) (ps qs : List PyData), D.pls l = true → D.pls r = true → D.toPs l = some ps → D.toPs r = some qs → (PyData.eqvAll ps qs = true ↔ l = r)
  | [], [], ps, qs, _, _, e1, e2 => by
    unfold D.toPs at e1 e2; cases e1; cases e2; simp [PyData.eqvAll]
  | [], e :: r, ps, qs, _, _, e1, e2 => by
    unfold D.toPs at e1 e2; cases e1
    obtain ⟨p, _, e3⟩ := Option.bind_eq_some_iff.mp e2
    obtain ⟨q, _, rfl⟩ := Option.map_eq_some_iff.mp e3
    simp [PyData.eqvAll]
  | d :: l, [], ps, qs, _, _, e1, e2 => by
    unfold D.toPs at e1 e2; cases e2
    obtain ⟨p, _, e3⟩ := Option.bind_eq_some_iff.mp e1
    obtain ⟨q, _, rfl⟩ := Option.map_eq_some_iff.mp e3
    simp [PyData.eqvAll]
  | d :: l, e :: r, ps, qs, g, h, e1, e2 => by
    unfold D.toPs at e1 e2
    obtain ⟨p, a1, a2⟩ := Option.bind_eq_some_iff.mp e1
    obtain ⟨p2, a3, rfl⟩ := Option.map_eq_some_iff.mp a2
    obtain ⟨q, b1, b2⟩ := Option.bind_eq_some_iff.mp e2
    obtain ⟨q2, b3, rfl⟩ := Option.map_eq_some_iff.mp b2
    unfold D.pls at g h
    rw [Bool.and_eq_true] at g h
    have h1 := pl_eqv d e p q g.1 h.1 a1 b1
    have h2 := pls_eqv l r p2 q2 g.2 h.2 a3 b3
    simp [PyData.eqvAll, h1, h2]
end
theorem eqD_data {x y : D} (hx : x.pl = true) (hy : y.pl = true) (dx : x.dp ≤ 150) (dy : y.dp ≤ 150) : ∃ b, (match x.toP, y.toP with
    | some p, some q => if dpOk p && dpOk q then some (PyData.eqv p q) else none
    | _, _ => none) = some b ∧ (b = true ↔ x = y) := by
  obtain ⟨p, e1, e2, e3⟩ := pl_toP x hx
  obtain ⟨q, f1, f2, f3⟩ := pl_toP y hy
  rw [e1, f1]
  have k1 : dpOk p = true := by unfold dpOk; rw [e2, decide_eq_true (by omega)]; rfl
  have k2 : dpOk q = true := by unfold dpOk; rw [f2, decide_eq_true (by omega)]; rfl
  refine ⟨PyData.eqv p q, ?_, pl_eqv x y p q hx hy e1 f1⟩
  show (if (dpOk p && dpOk q) = true then _ else _) = _
  rw [k1, k2]; rfl
open Classical in
/-- == of plain data -/
theorem eqD_pl {x y : D} (hx : x.pl = true) (hy : y.pl = true) (dx : x.dp ≤ 150) (dy : y.dp ≤ 150) : eqD x y = some (decide (x = y)) := by
  obtain ⟨b, e, h⟩ := eqD_data hx hy dx dy
  have hb : b = decide (x = y) := by
    by_cases c : x = y
    · rw [h.mpr c, decide_eq_true c]
    · rw [decide_eq_false c]
      cases b with
      | false => rfl
      | true => exact absurd (h.mp rfl) c
  rw [← hb]
  unfold eqD
  split
  · rename_i i j
    have : b = decide (i = j) := by rw [hb]; simp
    rw [this]
  · rename_i i j
    have : b = decide (i = j) := by rw [hb]; simp
    rw [this]
  · rename_i i j
    have : b = decide (i = j) := by rw [hb]; simp
    rw [this]
  · exact e
open Classical in
/-- x in l, of plain data -/
theorem anyEq_pl {x : D} {l : List D} (hx : x.pl = true) (hl : D.pls l = true) (dx : x.dp ≤ 150) (dl : D.dps l < 150) : anyEq x l = some (decide (x ∈ l)) := by
  obtain ⟨p, e1, e2, e3⟩ := pl_toP x hx
  obtain ⟨ps, f1, f2, f3⟩ := pls_toP l hl
  have k1 : dpOk p = true := by unfold dpOk; rw [e2, decide_eq_true (by omega)]; rfl
  have k2 : dpOk (.list ps) = true := by
    unfold dpOk
    have : (PyData.list ps).canLay0 = true := by unfold PyData.canLay0; exact f2
    rw [this, decide_eq_true (by unfold PyData.depth; omega)]; rfl
  unfold anyEq
  rw [e1, f1]
  show (if (dpOk p && dpOk (.list ps)) = true then _ else _) = _
  rw [k1, k2]
  show some _ = _
  congr 1
  have key : ∀ (l : List D) (ps : List PyData), D.pls l = true → D.toPs l = some ps → ((ps.any fun z => PyData.eqv z p) = true ↔ x ∈ l) := by
    intro l
    induction l with
    | nil => intro ps _ e; unfold D.toPs at e; cases e; simp
    | cons d l ih =>
      intro ps h e
      unfold D.toPs at e
      obtain ⟨q, a1, a2⟩ := Option.bind_eq_some_iff.mp e
      obtain ⟨qs, a3, rfl⟩ := Option.map_eq_some_iff.mp a2
      unfold D.pls at h
      rw [Bool.and_eq_true] at h
      have h1 := pl_eqv d x q p h.1 hx a1 e1
      have h2 := ih qs h.2 a3
      rw [List.any_cons, Bool.or_eq_true, h1, h2, List.mem_cons]
      exact ⟨fun z => z.imp Eq.symm id, fun z => z.imp Eq.symm id⟩
  have := key l ps hl f1
  by_cases c : x ∈ l
  · rw [this.mpr c, decide_eq_true c]
  · rw [decide_eq_false c]
    cases q : ps.any fun z => PyData.eqv z p with
    | false => rfl
    | true => exact absurd (this.mp q) c
end Mi
/-! Mi: draws of natural numbers, lists of draws; heaps with more behind them. -/
namespace Mi
theorem set_app {h X : MH} {i : Nat} {a b : D} (hi : i < h.length) : (h.set i a ++ X).set i b = h.set i b ++ X := by
  rw [List.set_append_left _ _ (by rw [List.length_set]; exact hi), List.set_set]
theorem set_appl {h X : MH} {i : Nat} {b : D} (hi : i < h.length) : (h ++ X).set i b = h.set i b ++ X := List.set_append_left _ _ hi
theorem get_app {h X : MH} {i : Nat} {a : D} (hi : i < h.length) : (h.set i a ++ X)[i]? = some a := by
  rw [List.getElem?_append_left (by rw [List.length_set]; exact hi), List.getElem?_set_self hi]
theorem get_set {h : MH} {i : Nat} {a : D} (hi : i < h.length) : (h.set i a)[i]? = some a := List.getElem?_set_self hi
theorem set_same {h : MH} {i : Nat} {a : D} (e : h[i]? = some a) : h.set i a = h := by
  have hi : i < h.length := (List.getElem?_eq_some_iff.mp e).1
  have : h[i] = a := by rw [List.getElem?_eq_getElem hi] at e; exact Option.some.inj e
  rw [← this, List.set_getElem_self]
theorem lt_of_get {h : MH} {i : Nat} {a : D} (e : h[i]? = some a) : i < h.length := (List.getElem?_eq_some_iff.mp e).1
section
variable {P : List Fn} {j k b i : Nat} {d : D} {h : MH} {Q : D → MH → Prop}
theorem m_drawN {below : Nat} (hP : P[j]? = some drawF) (hi : h[i]? = some d) (m : Mach6 b d) (hb : b < 1000000000) (h0 : 0 < below) (h1 : (below : Int) < 2 ^ 62)
    (w : ∀ (r : Nat) (d' : D), r < below → Mach6 (b + 1) d' → Q (.int r) (h.set i d')) : Wc (callF P (k + 1)) j [.ref i, .int below] h Q := by
  refine m_draw hP hi m hb (by omega) h1 fun r d' r0 r1 m' => ?_
  obtain ⟨n, rfl⟩ := Int.eq_ofNat_of_zero_le r0
  exact w n d' (by omega) m'
theorem okRs_nats (n : Nat) (l : List Nat) : D.okRs n (l.map fun (x : Nat) => D.int x) = true := by
  have : (l.map fun (x : Nat) => D.int x) = ((l.map fun (x : Nat) => (x : Int)).map D.int) := by simp
  rw [this]
  exact okRs_intl _ _
/-- [draw(m, B) for v in range(E)] -/
theorem we_draws {nm : PySem.Str} {σ : Env} {v vm below b1 : Nat} {E B : Ex} (hP : P[j]? = some drawF) (hl : i < h.length)
    (hE : We (callF P (k + 1)) E σ h fun w h1 => ∃ (cnt : Nat) (d1 : D), w = .int cnt ∧ h1 = h.set i d1 ∧ Mach6 b1 d1 ∧ cnt ≤ 1000000 ∧ b1 + cnt < 1000000000 ∧
      ∀ (l : List Nat) (d' : D), l.length = cnt → (∀ x ∈ l, x < below) → Mach6 (b1 + cnt) d' → Q (.lst (l.map fun (n : Nat) => D.int n)) (h.set i d'))
    (hv : ∀ x : D, ((wipeD σ [v]).set v (some x))[vm]? = some (some (.ref i)))
    (hB : ∀ (x : D) (h1 : MH), We (callF P (k + 1)) B ((wipeD σ [v]).set v (some x)) h1 fun d h2 => d = .int below ∧ h2 = h1)
    (h0 : 0 < below) (hz : (below : Int) < 2 ^ 62) :
    We (callF P (k + 1)) (.lc false [v] (.name v) (.rng (.cons E .nil)) (.bl true) (.call nm j (.cons (.var vm) (.cons B .nil)))) σ h Q := by
  obtain ⟨w, h1, ew, cnt, d1, rfl, rfl, m1, hc, hcb, fin⟩ := hE
  refine we_lcI (I := fun t acc h2 => ∃ (l : List Nat) (d' : D), acc = l.map (fun (n : Nat) => D.int n) ∧ l.length = t ∧ (∀ x ∈ l, x < below) ∧ h2 = h.set i d' ∧ Mach6 (b1 + t) d') ?_
  rw [we_rng, wl_cons]
  refine ⟨_, _, ew, ?_⟩
  refine wl_nil.mpr ?_
  refine ⟨_, rng_nat (by omega), (List.range cnt).map (fun (n : Nat) => D.int n), rfl, by rw [List.length_map, List.length_range]; unfold szL; omega, ⟨[], d1, rfl, rfl, by simp, rfl, m1⟩, ?_, ?_⟩
  · rintro t x acc h2 hx ⟨l, d', rfl, rfl, hl2, rfl, m'⟩
    have ht : l.length < cnt := by
      have := (List.getElem?_eq_some_iff.mp hx).1
      simpa using this
    refine ⟨_, rfl, ?_⟩
    rw [we_bl]
    refine ⟨true, rfl, ?_⟩
    rw [if_pos rfl, we_call, wl_cons, we_var]
    refine ⟨_, hv x, ?_⟩
    rw [wl_cons]
    refine (hB x _).mono ?_
    rintro _ _ ⟨rfl, rfl⟩
    refine wl_nil.mpr ?_
    refine m_drawN hP (get_set hl) m' (by omega) h0 hz fun r d2 hr m2 => ?_
    refine ⟨l ++ [r], d2, by simp, by simp, fun y hy => ?_, by rw [List.set_set], m2⟩
    rcases List.mem_append.mp hy with q | q
    · exact hl2 y q
    · have : y = r := by simpa using q
      omega
  · rintro L h2 ⟨l, d', rfl, hl1, hl2, rfl, m'⟩
    rw [List.length_map, List.length_range] at hl1 m'
    rw [if_neg (by decide)]
    exact fin l d' hl1 hl2 m'
/-- [e for v in range(E)], where e draws: c times at most -/
theorem we_lcDraw {α : Type} {call : Caller} {σ : Env} {v b1 : Nat} {E e : Ex} (en : α → D) (p : Nat → α → Prop) (c : Nat) (hl : i < h.length)
    (hE : We call E σ h fun w h1 => ∃ (cnt : Nat) (d1 : D), w = .int cnt ∧ h1 = h.set i d1 ∧ Mach6 b1 d1 ∧ cnt ≤ 1000000 ∧
      (∀ (t : Nat) (d2 : D), t < cnt → Mach6 (b1 + c * t) d2 → We call e ((wipeD σ [v]).set v (some (.int t))) (h.set i d2) fun d h2 => ∃ (y : α) (d3 : D), d = en y ∧ p t y ∧ h2 = h.set i d3 ∧ Mach6 (b1 + c * (t + 1)) d3) ∧
      ∀ (l : List α) (d' : D), l.length = cnt → (∀ (t : Nat) (y : α), l[t]? = some y → p t y) → Mach6 (b1 + c * cnt) d' → Q (.lst (l.map en)) (h.set i d')) :
    We call (.lc false [v] (.name v) (.rng (.cons E .nil)) (.bl true) e) σ h Q := by
  obtain ⟨w, h1, ew, cnt, d1, rfl, rfl, m1, hc, he, fin⟩ := hE
  refine we_lcI (I := fun t acc h2 => ∃ (l : List α) (d' : D), acc = l.map en ∧ l.length = t ∧ (∀ (t : Nat) (y : α), l[t]? = some y → p t y) ∧ h2 = h.set i d' ∧ Mach6 (b1 + c * t) d') ?_
  rw [we_rng, wl_cons]
  refine ⟨_, _, ew, ?_⟩
  refine wl_nil.mpr ?_
  refine ⟨_, rng_nat (by omega), (List.range cnt).map (fun (n : Nat) => D.int n), rfl, by rw [List.length_map, List.length_range]; unfold szL; omega, ⟨[], d1, rfl, rfl, by simp, rfl, m1⟩, ?_, ?_⟩
  · rintro t x acc h2 hx ⟨l, d', rfl, rfl, hl2, rfl, m'⟩
    have ht : l.length < cnt := by
      have := (List.getElem?_eq_some_iff.mp hx).1
      simpa using this
    have ex : x = .int (l.length : Nat) := by
      rw [List.getElem?_map, List.getElem?_range ht] at hx
      exact (Option.some.inj hx).symm
    subst ex
    refine ⟨_, rfl, ?_⟩
    rw [we_bl]
    refine ⟨true, rfl, ?_⟩
    rw [if_pos rfl]
    refine (he _ d' ht m').mono ?_
    rintro _ _ ⟨y, d3, rfl, hp, rfl, m3⟩
    refine ⟨l ++ [y], d3, by simp, by simp, fun t z hz => ?_, rfl, m3⟩
    by_cases q : t < l.length
    · rw [List.getElem?_append_left q] at hz
      exact hl2 t z hz
    · rw [List.getElem?_append_right (by omega)] at hz
      have q0 : t - l.length = 0 := by
        by_cases z0 : t - l.length = 0
        · exact z0
        · rw [List.getElem?_eq_none (by simp; omega)] at hz; cases hz
      rw [q0] at hz
      cases hz
      have : t = l.length := by omega
      rw [this]; exact hp
  · rintro L h2 ⟨l, d', rfl, hl1, hl2, rfl, m'⟩
    rw [List.length_map, List.length_range] at hl1 m'
    rw [if_neg (by decide)]
    exact fin l d' hl1 hl2 m'
end
theorem Wc.out {call : Caller} {f : Nat} {l : List D} {h : MH} {Q : D → MH → Prop} (w : Wc call f l h Q) : ∃ d h', call f l h = .ok (d, h') ∧ Q d h' := w
theorem Wc.mk {call : Caller} {f : Nat} {l : List D} {h : MH} {Q : D → MH → Prop} (w : ∃ d h', call f l h = .ok (d, h') ∧ Q d h') : Wc call f l h Q := w
theorem We.out {call : Caller} {e : Ex} {σ : Env} {h : MH} {Q : D → MH → Prop} (w : We call e σ h Q) : ∃ d h', ev call e σ h = .ok (d, h') ∧ Q d h' := w
theorem We.mk {call : Caller} {e : Ex} {σ : Env} {h : MH} {Q : D → MH → Prop} (w : ∃ d h', ev call e σ h = .ok (d, h') ∧ Q d h') : We call e σ h Q := w
/-- a for by what is walked, told as a goal -/
theorem ws_forW {call : Caller} {σ : Env} {h : MH} {Q : Fl → Env → MH → Prop} {t : Tg} {it : Ex} {b : St} (I : Nat → Env → MH → Prop) (l : List D)
    (ei : We call it σ h fun w h1 => itrOf w h1 = some (.things l) ∧ I 0 σ h1)
    (step : ∀ (i : Nat) (x : D) (σ : Env) (h : MH), l[i]? = some x → I i σ h → ∃ σ2, asgD t x σ = some σ2 ∧ Ws call b σ2 h fun f σ' h' => match f with
      | .nx => I (i + 1) σ' h'
      | .ct => I (i + 1) σ' h'
      | .bk => Q .nx σ' h'
      | .rt d => Q (.rt d) σ' h')
    (fin : ∀ σ h, I l.length σ h → Q .nx σ h) : Ws call (.forr t it b) σ h Q := by
  obtain ⟨w, h1, e, ew, i0⟩ := ei
  exact ws_for I e ew i0 step fin
end Mi
namespace Lw
open PySem PySem.Spec PyProof.Rows L2 Mi
/-- told_entry(row, i); slots: 0 row 1 i 2 begun 3 around -/
def f_told_entry : Fn := ⟨2, 4, false,
  .cons (.asg (.tup (.cons (.name 2) (.cons (.name 3) (.nil)))) (.var 0)) (.cons (.ret (.ite (.cmp .lt (.var 1) (.bi .len false (.cons (.var 2) (.nil)))) (.ix (.var 2) (.var 1)) (.ix (.var 3) (.bin .mod false (.bin .sub false (.var 1) (.bi .len false (.cons (.var 2) (.nil)))) (.bi .len false (.cons (.var 3) (.nil))))))) (.nil))⟩
/-- is_number(value); slots: 0 value -/
def f_is_number : Fn := ⟨1, 1, false,
  .cons (.ret (.andd (.isi .int (.var 0)) (.andd (.nott (.isi .bool (.var 0))) (.one (.cmp .ge (.var 0) (.int 0)))))) (.nil)⟩
/-- is_plain_data(value); slots: 0 value 1 pending 2 one -/
def f_is_plain_data : Fn := ⟨1, 3, false,
  .cons (.asg (.name 1) (.lst true (.cons (.var 0) (.nil)))) (.cons (.whil (.var 1) (.cons (.asg (.name 2) (.me .pop (.var 1) (.nil))) (.cons (.ite (.andd (.isi .tuple (.var 2)) (.one (.cmp .eq (.bi .len false (.cons (.var 2) (.nil))) (.int 2)))) (.cons (.expr (.me .extend (.var 1) (.cons (.var 2) (.nil)))) (.nil)) (.cons (.ite (.nott (.call "is_number" 1 (.cons (.var 2) (.nil)))) (.cons (.ret (.bl false)) (.nil)) (.nil)) (.nil))) (.nil)))) (.cons (.ret (.bl true)) (.nil)))⟩
/-- is_menu(value); slots: 0 value 1 one -/
def f_is_menu : Fn := ⟨1, 2, false,
  .cons (.ite (.orr (.nott (.isi .tuple (.var 0))) (.one (.cmp .gt (.bi .len false (.cons (.var 0) (.nil))) (.int 4)))) (.cons (.ret (.bl false)) (.nil)) (.nil)) (.cons (.ret (.bi .all false (.cons (.lc false [1] (.name 1) (.var 0) (.bl true) (.andd (.call "is_number" 1 (.cons (.var 1) (.nil))) (.one (.chain .le .le (.int 2) (.var 1) (.int 9))))) (.nil)))) (.nil))⟩
/-- come_place(menu, moment); slots: 0 menu 1 moment -/
def f_come_place : Fn := ⟨2, 2, false,
  .cons (.ret (.tup (.cons (.bin .fdiv false (.var 1) (.bi .len false (.cons (.var 0) (.nil)))) (.cons (.bin .sub false (.var 1) (.bin .mul false (.bin .fdiv false (.var 1) (.bi .len false (.cons (.var 0) (.nil)))) (.bi .len false (.cons (.var 0) (.nil))))) (.nil))))) (.nil)⟩
/-- is_state(value, many, below); slots: 0 value 1 many 2 below 3 number -/
def f_is_state : Fn := ⟨3, 4, false,
  .cons (.ite (.orr (.nott (.isi .tuple (.var 0))) (.one (.cmp .ne (.bi .len false (.cons (.var 0) (.nil))) (.int 2)))) (.cons (.ret (.bl false)) (.nil)) (.nil)) (.cons (.ite (.cmp .eq (.ix (.var 0) (.int 0)) (.str "told")) (.cons (.ret (.call "is_plain_data" 2 (.cons (.ix (.var 0) (.int 1)) (.nil)))) (.nil)) (.nil)) (.cons (.ite (.orr (.cmp .ne (.ix (.var 0) (.int 0)) (.str "go")) (.orr (.nott (.isi .tuple (.ix (.var 0) (.int 1)))) (.one (.cmp .ne (.bi .len false (.cons (.ix (.var 0) (.int 1)) (.nil))) (.var 1))))) (.cons (.ret (.bl false)) (.nil)) (.nil)) (.cons (.ret (.bi .all false (.cons (.lc false [3] (.name 3) (.ix (.var 0) (.int 1)) (.bl true) (.andd (.call "is_number" 1 (.cons (.var 3) (.nil))) (.one (.cmp .lt (.var 3) (.var 2))))) (.nil)))) (.nil))))⟩
/-- is_level(menu, levels, moment); slots: 0 menu 1 levels 2 moment 3 level 4 below 5 many 6 state -/
def f_is_level : Fn := ⟨3, 7, false,
  .cons (.asg (.tup (.cons (.name 3) (.cons (.name 4) (.nil)))) (.tup (.cons (.ix (.var 1) (.var 2)) (.cons (.int 0) (.nil))))) (.cons (.ite (.andd (.cmp .lt (.bin .add false (.var 2) (.int 1)) (.bi .len false (.cons (.var 1) (.nil)))) (.one (.isi .tuple (.ix (.var 1) (.bin .add false (.var 2) (.int 1)))))) (.cons (.asg (.name 4) (.bi .len false (.cons (.ix (.var 1) (.bin .add false (.var 2) (.int 1))) (.nil)))) (.nil)) (.nil)) (.cons (.ite (.orr (.nott (.isi .tuple (.var 3))) (.one (.cmp .eq (.var 3) (.tup (.nil))))) (.cons (.ret (.bl false)) (.nil)) (.nil)) (.cons (.asg (.name 5) (.ite (.cmp .ne (.var 0) (.tup (.nil))) (.ix (.var 0) (.ix (.call "come_place" 4 (.cons (.var 0) (.cons (.var 2) (.nil)))) (.int 1))) (.int 0))) (.cons (.ret (.bi .all false (.cons (.lc false [6] (.name 6) (.var 3) (.bl true) (.call "is_state" 5 (.cons (.var 6) (.cons (.var 5) (.cons (.var 4) (.nil)))))) (.nil)))) (.nil)))))⟩
/-- is_machine(value); slots: 0 value 1 menu 2 levels 3 moment 4 state 5 level -/
def f_is_machine : Fn := ⟨1, 6, false,
  .cons (.ite (.orr (.nott (.isi .tuple (.var 0))) (.orr (.cmp .ne (.bi .len false (.cons (.var 0) (.nil))) (.int 2)) (.orr (.nott (.call "is_menu" 3 (.cons (.ix (.var 0) (.int 0)) (.nil)))) (.one (.nott (.isi .tuple (.ix (.var 0) (.int 1)))))))) (.cons (.ret (.bl false)) (.nil)) (.nil)) (.cons (.asg (.tup (.cons (.name 1) (.cons (.name 2) (.nil)))) (.var 0)) (.cons (.ite (.nott (.chain .lt .le (.int 0) (.bi .len false (.cons (.var 2) (.nil))) (.ite (.cmp .ne (.var 1) (.tup (.nil))) (.gint "MOST_LEVELS" 401) (.int 1)))) (.cons (.ret (.bl false)) (.nil)) (.nil)) (.cons (.ite (.orr (.nott (.bi .all false (.cons (.lc false [3] (.name 3) (.rng (.cons (.bi .len false (.cons (.var 2) (.nil))) (.nil))) (.bl true) (.call "is_level" 6 (.cons (.var 1) (.cons (.var 2) (.cons (.var 3) (.nil)))))) (.nil)))) (.one (.cmp .ne (.bi .len false (.cons (.ix (.var 2) (.int 0)) (.nil))) (.int 1)))) (.cons (.ret (.bl false)) (.nil)) (.nil)) (.cons (.ite (.nott (.bi .all false (.cons (.lc false [4] (.name 4) (.ix (.var 2) (.neg (.int 1))) (.bl true) (.cmp .eq (.ix (.var 4) (.int 0)) (.str "told"))) (.nil)))) (.cons (.ret (.bl false)) (.nil)) (.nil)) (.cons (.ret (.cmp .le (.bi .sum false (.cons (.lc false [5] (.name 5) (.var 2) (.bl true) (.bi .len false (.cons (.var 5) (.nil)))) (.nil))) (.gint "MOST_STATES" 2000))) (.nil))))))⟩
/-- states_at(machine); slots: 0 machine 1 level -/
def f_states_at : Fn := ⟨1, 2, false,
  .cons (.ret (.bi .tuple false (.cons (.lc false [1] (.name 1) (.ix (.var 0) (.int 1)) (.bl true) (.bi .len false (.cons (.var 1) (.nil)))) (.nil)))) (.nil)⟩
/-- run_on(machine, rows); slots: 0 machine 1 rows 2 menu 3 levels 4 moment 5 state 6 index 7 row -/
def f_run_on : Fn := ⟨2, 8, false,
  .cons (.asg (.tup (.cons (.name 2) (.cons (.name 3) (.nil)))) (.var 0)) (.cons (.asg (.tup (.cons (.name 4) (.cons (.name 5) (.nil)))) (.tup (.cons (.int 0) (.cons (.ix (.ix (.var 3) (.int 0)) (.int 0)) (.nil))))) (.cons (.whil (.cmp .eq (.ix (.var 5) (.int 0)) (.str "go")) (.cons (.asg (.tup (.cons (.name 6) (.cons (.name 7) (.nil)))) (.call "come_place" 4 (.cons (.var 2) (.cons (.var 4) (.nil))))) (.cons (.asg (.tup (.cons (.name 4) (.cons (.name 5) (.nil)))) (.tup (.cons (.bin .add false (.var 4) (.int 1)) (.cons (.ix (.ix (.var 3) (.bin .add false (.var 4) (.int 1))) (.ix (.ix (.var 5) (.int 1)) (.call "told_entry" 0 (.cons (.ix (.var 1) (.var 7)) (.cons (.var 6) (.nil)))))) (.nil))))) (.nil)))) (.cons (.ret (.tup (.cons (.ix (.var 5) (.int 1)) (.cons (.var 4) (.nil))))) (.nil))))⟩
/-- opened(machine, moment, number); slots: 0 machine 1 moment 2 number 3 state -/
def f_opened : Fn := ⟨3, 4, false,
  .cons (.asg (.name 3) (.ix (.ix (.ix (.var 0) (.int 1)) (.var 1)) (.var 2))) (.cons (.ret (.ite (.cmp .eq (.ix (.var 3) (.int 0)) (.str "go")) (.tup (.cons (.str "on") (.cons (.tup (.cons (.var 1) (.cons (.var 2) (.nil)))) (.nil)))) (.tup (.cons (.str "told") (.cons (.ix (.var 3) (.int 1)) (.cons (.var 1) (.nil))))))) (.nil))⟩
/-- first_reader(machine); slots: 0 machine -/
def f_first_reader : Fn := ⟨1, 1, false,
  .cons (.ret (.call "opened" 10 (.cons (.var 0) (.cons (.int 0) (.cons (.int 0) (.nil)))))) (.nil)⟩
/-- read(machine, reader, digit); slots: 0 machine 1 reader 2 digit 3 moment 4 number -/
def f_read : Fn := ⟨3, 5, false,
  .cons (.asg (.tup (.cons (.name 3) (.cons (.name 4) (.nil)))) (.var 1)) (.cons (.ret (.call "opened" 10 (.cons (.var 0) (.cons (.bin .add false (.var 3) (.int 1)) (.cons (.ix (.ix (.ix (.ix (.ix (.var 0) (.int 1)) (.var 3)) (.var 4)) (.int 1)) (.var 2)) (.nil)))))) (.nil))⟩
/-- read_all(machine, reader, digits); slots: 0 machine 1 reader 2 digits 3 result 4 count -/
def f_read_all : Fn := ⟨3, 5, false,
  .cons (.asg (.tup (.cons (.name 3) (.cons (.name 4) (.nil)))) (.tup (.cons (.tup (.cons (.str "on") (.cons (.var 1) (.nil)))) (.cons (.int 0) (.nil))))) (.cons (.whil (.andd (.cmp .eq (.ix (.var 3) (.int 0)) (.str "on")) (.one (.cmp .lt (.var 4) (.bi .len false (.cons (.var 2) (.nil)))))) (.cons (.asg (.name 3) (.call "read" 12 (.cons (.var 0) (.cons (.ix (.var 3) (.int 1)) (.cons (.ix (.var 2) (.var 4)) (.nil)))))) (.cons (.asg (.name 4) (.bin .add false (.var 4) (.int 1))) (.nil)))) (.cons (.ret (.tup (.cons (.var 3) (.cons (.var 4) (.nil))))) (.nil)))⟩
/-- _law_begun(_law_script, _law_k); slots: 0 _law_script 1 _law_k 2 _law_cells 3 _law_great 4 _law_cell 5 _law_begun_here 6 _law_left -/
def f_law_begun : Fn := ⟨2, 7, true,
  .cons (.asg (.name 2) (.bin .add false (.slc false (.var 0) (.var 1) (.nopart)) (.slc false (.var 0) (.nopart) (.var 1)))) (.cons (.asg (.name 3) (.lc false [4] (.name 4) (.var 0) (.cmp .ge (.var 4) (.bin .pow false (.int 10) (.int 18))) (.var 4))) (.cons (.asg (.name 5) (.bin .add false (.int 127) (.bin .mul false (.int 10) (.var 1)))) (.cons (.forr (.name 4) (.var 2) (.cons (.asg (.name 5) (.bin .mod false (.bi .int false (.cons (.bin .add false (.bin .mul false (.var 5) (.int 48271)) (.var 4)) (.nil))) (.int 2147483647))) (.nil))) (.cons (.asg (.name 6) (.ite (.cmp .lt (.var 1) (.bi .len false (.cons (.var 3) (.nil)))) (.ix (.var 3) (.var 1)) (.int 0))) (.cons (.ret (.dsp true [.inr "left", .inr "seed", .inr "cells", .inr "spot", .inr "next", .inr "quants"] (.cons (.var 6) (.cons (.var 5) (.cons (.bin .add false (.var 2) (.lst false (.cons (.bin .add false (.bin .mul false (.int 31) (.var 1)) (.int 43)) (.nil)))) (.cons (.int 0) (.cons (.int 0) (.cons (.int 3) (.nil))))))))) (.nil))))))⟩
/-- _law_draw(_law_m, _law_below); slots: 0 _law_m 1 _law_below 2 _law_found 3 _law_spot 4 _law_cells 5 _law_added 6 _law_cell 7 _law_blend -/
def f_law_draw : Fn := ⟨2, 8, false,
  .cons (.ite (.cmp .gt (.ix (.var 0) (.str "left")) (.int 0)) (.cons (.asg (.name 2) (.bin .mod false (.bi .int false (.cons (.ix (.var 0) (.str "left")) (.nil))) (.var 1))) (.cons (.put (.var 0) (.str "left") (.bin .fdiv false (.ix (.var 0) (.str "left")) (.var 1))) (.cons (.ret (.var 2)) (.nil)))) (.nil)) (.cons (.asg (.name 3) (.ix (.var 0) (.str "spot"))) (.cons (.put (.var 0) (.str "spot") (.bin .add false (.var 3) (.int 1))) (.cons (.asg (.tup (.cons (.name 4) (.cons (.name 5) (.nil)))) (.tup (.cons (.ix (.var 0) (.str "cells")) (.cons (.bin .add false (.ix (.var 0) (.str "seed")) (.bin .mul false (.bin .mul false (.int 40503) (.var 3)) (.var 3))) (.nil))))) (.cons (.asg (.name 6) (.ix (.var 4) (.bin .mod false (.bi .int false (.cons (.var 3) (.nil))) (.bi .len false (.cons (.var 4) (.nil)))))) (.cons (.asg (.name 7) (.bin .mod false (.bi .int false (.cons (.bin .add false (.bin .mul false (.var 6) (.bin .add false (.bin .mul false (.int 2) (.var 3)) (.int 3))) (.var 5)) (.nil))) (.int 2147483647))) (.cons (.asg (.name 7) (.bin .mod false (.bi .int false (.cons (.bin .add false (.bin .add false (.bin .mul false (.var 7) (.var 7)) (.bin .mul false (.int 69621) (.var 3))) (.ix (.var 0) (.str "seed"))) (.nil))) (.int 2147483629))) (.cons (.ret (.bin .mod false (.bin .fdiv false (.bin .mod false (.bi .int false (.cons (.bin .add false (.bin .mul false (.var 7) (.int 48271)) (.var 3)) (.nil))) (.int 2147483647)) (.int 11)) (.var 1))) (.nil))))))))⟩
/-- _law_of(_law_m, _law_some); slots: 0 _law_m 1 _law_some -/
def f_law_of : Fn := ⟨2, 2, true,
  .cons (.ret (.ix (.var 1) (.call "_law_draw" 15 (.cons (.var 0) (.cons (.bi .len false (.cons (.var 1) (.nil))) (.nil)))))) (.nil)⟩
/-- _law_sizes(_law_m); slots: 0 _law_m 1 _law_k -/
def f_law_sizes : Fn := ⟨1, 2, false,
  .cons (.ret (.bi .tuple false (.cons (.lc false [1] (.name 1) (.rng (.cons (.bin .add false (.int 1) (.call "_law_draw" 15 (.cons (.var 0) (.cons (.int 3) (.nil))))) (.nil))) (.bl true) (.call "_law_of" 16 (.cons (.var 0) (.cons (.lst false (.cons (.int 2) (.cons (.int 2) (.cons (.int 3) (.nil))))) (.nil))))) (.nil)))) (.nil)⟩
/-- _law_told_entry(_law_row_here, _law_i); slots: 0 _law_row_here 1 _law_i 2 _law_begun_here 3 _law_more -/
def f_law_told_entry : Fn := ⟨2, 4, false,
  .cons (.asg (.tup (.cons (.name 2) (.cons (.name 3) (.nil)))) (.var 0)) (.cons (.ret (.ite (.cmp .lt (.var 1) (.bi .len false (.cons (.var 2) (.nil)))) (.ix (.var 2) (.var 1)) (.ix (.var 3) (.bin .mod false (.bi .int false (.cons (.bin .sub false (.var 1) (.bi .len false (.cons (.var 2) (.nil)))) (.nil))) (.bi .len false (.cons (.var 3) (.nil))))))) (.nil))⟩
/-- _law_machine(_law_m, _law_sizes_here, _law_many, _law_ends); slots: 0 _law_m 1 _law_sizes_here 2 _law_many 3 _law_ends 4 _law_counts 5 _law_k 6 _law_levels 7 _law_t 8 _law_states 9 _law_n 10 _law_size 11 _law_d -/
def f_law_machine : Fn := ⟨4, 12, false,
  .cons (.asg (.name 4) (.bin .add false (.lst false (.cons (.int 1) (.nil))) (.lc false [5] (.name 5) (.rng (.cons (.bin .sub false (.var 2) (.int 1)) (.nil))) (.bl true) (.bin .add false (.int 1) (.call "_law_draw" 15 (.cons (.var 0) (.cons (.int 4) (.nil)))))))) (.cons (.asg (.name 6) (.lst true (.nil))) (.cons (.forr (.name 7) (.rng (.cons (.var 2) (.nil))) (.cons (.asg (.name 8) (.lst true (.nil))) (.cons (.forr (.name 9) (.rng (.cons (.ix (.var 4) (.var 7)) (.nil))) (.cons (.ite (.orr (.cmp .eq (.var 7) (.bin .sub false (.var 2) (.int 1))) (.one (.cmp .eq (.call "_law_draw" 15 (.cons (.var 0) (.cons (.int 5) (.nil)))) (.int 0)))) (.cons (.expr (.me .append (.var 8) (.cons (.tup (.cons (.str "told") (.cons (.call "_law_of" 16 (.cons (.var 0) (.cons (.var 3) (.nil)))) (.nil)))) (.nil)))) (.nil)) (.cons (.asg (.name 10) (.ix (.var 1) (.bin .mod false (.bi .int false (.cons (.var 7) (.nil))) (.bi .len false (.cons (.var 1) (.nil)))))) (.cons (.expr (.me .append (.var 8) (.cons (.tup (.cons (.str "go") (.cons (.bi .tuple false (.cons (.lc false [11] (.name 11) (.rng (.cons (.var 10) (.nil))) (.bl true) (.call "_law_draw" 15 (.cons (.var 0) (.cons (.ix (.var 4) (.bin .add false (.var 7) (.int 1))) (.nil))))) (.nil))) (.nil)))) (.nil)))) (.nil)))) (.nil))) (.cons (.expr (.me .append (.var 6) (.cons (.bi .tuple false (.cons (.var 8) (.nil))) (.nil)))) (.nil))))) (.cons (.ret (.tup (.cons (.var 1) (.cons (.bi .tuple false (.cons (.var 6) (.nil))) (.nil))))) (.nil))))⟩
/-- _law_words(_law_sizes_here, _law_many); slots: 0 _law_sizes_here 1 _law_many 2 _law_found 3 _law_t 4 _law_longer 5 _law_word 6 _law_d -/
def f_law_words : Fn := ⟨2, 7, false,
  .cons (.asg (.name 2) (.lst false (.cons (.tup (.nil)) (.nil)))) (.cons (.forr (.name 3) (.rng (.cons (.var 1) (.nil))) (.cons (.asg (.name 4) (.lst false (.nil))) (.cons (.forr (.name 5) (.var 2) (.cons (.asg (.name 4) (.bin .add false (.var 4) (.lc false [6] (.name 6) (.rng (.cons (.ix (.var 0) (.bin .mod false (.bi .int false (.cons (.var 3) (.nil))) (.bi .len false (.cons (.var 0) (.nil))))) (.nil))) (.bl true) (.bin .add false (.var 5) (.tup (.cons (.var 6) (.nil))))))) (.nil))) (.cons (.asg (.name 2) (.var 4)) (.nil))))) (.cons (.ret (.var 2)) (.nil)))⟩
/-- _law_told_by(_law_machine_here, _law_word); slots: 0 _law_machine_here 1 _law_word 2 _law_state 3 _law_t -/
def f_law_told_by : Fn := ⟨2, 4, false,
  .cons (.asg (.tup (.cons (.name 2) (.cons (.name 3) (.nil)))) (.tup (.cons (.ix (.ix (.ix (.var 0) (.int 1)) (.int 0)) (.int 0)) (.cons (.int 0) (.nil))))) (.cons (.whil (.cmp .eq (.ix (.var 2) (.int 0)) (.str "go")) (.cons (.asg (.tup (.cons (.name 2) (.cons (.name 3) (.nil)))) (.tup (.cons (.ix (.ix (.ix (.var 0) (.int 1)) (.bin .add false (.var 3) (.int 1))) (.ix (.ix (.var 2) (.int 1)) (.ix (.var 1) (.var 3)))) (.cons (.bin .add false (.var 3) (.int 1)) (.nil))))) (.nil))) (.cons (.ret (.tup (.cons (.ix (.var 2) (.int 1)) (.cons (.var 3) (.nil))))) (.nil)))⟩
/-- _law_result(_law_machine_here, _law_t, _law_n); slots: 0 _law_machine_here 1 _law_t 2 _law_n 3 _law_state -/
def f_law_result : Fn := ⟨3, 4, false,
  .cons (.asg (.name 3) (.ix (.ix (.ix (.var 0) (.int 1)) (.var 1)) (.var 2))) (.cons (.ret (.ite (.cmp .eq (.ix (.var 3) (.int 0)) (.str "go")) (.tup (.cons (.str "on") (.cons (.tup (.cons (.var 1) (.cons (.var 2) (.nil)))) (.nil)))) (.tup (.cons (.str "told") (.cons (.ix (.var 3) (.int 1)) (.cons (.var 1) (.nil))))))) (.nil))⟩
/-- _law_word_right(_law_machine_here, _law_word); slots: 0 _law_machine_here 1 _law_word 2 _law_here 3 _law_count 4 _law_t 5 _law_n 6 _law_after 7 _law_told -/
def f_law_word_right : Fn := ⟨2, 8, false,
  .cons (.asg (.tup (.cons (.name 2) (.cons (.name 3) (.nil)))) (.tup (.cons (.call "_law_result" 22 (.cons (.var 0) (.cons (.int 0) (.cons (.int 0) (.nil))))) (.cons (.int 0) (.nil))))) (.cons (.ite (.cmp .ne (.bi .repr false (.cons (.call "first_reader" 11 (.cons (.var 0) (.nil))) (.nil))) (.bi .repr false (.cons (.var 2) (.nil)))) (.cons (.ret (.bl false)) (.nil)) (.nil)) (.cons (.whil (.andd (.cmp .eq (.ix (.var 2) (.int 0)) (.str "on")) (.one (.cmp .lt (.var 3) (.bi .len false (.cons (.var 1) (.nil)))))) (.cons (.asg (.tup (.cons (.name 4) (.cons (.name 5) (.nil)))) (.ix (.var 2) (.int 1))) (.cons (.asg (.name 6) (.call "_law_result" 22 (.cons (.var 0) (.cons (.bin .add false (.var 4) (.int 1)) (.cons (.ix (.ix (.ix (.ix (.ix (.var 0) (.int 1)) (.var 4)) (.var 5)) (.int 1)) (.ix (.var 1) (.var 3))) (.nil)))))) (.cons (.ite (.cmp .ne (.bi .repr false (.cons (.call "read" 12 (.cons (.var 0) (.cons (.ix (.var 2) (.int 1)) (.cons (.ix (.var 1) (.var 3)) (.nil))))) (.nil))) (.bi .repr false (.cons (.var 6) (.nil)))) (.cons (.ret (.bl false)) (.nil)) (.nil)) (.cons (.asg (.tup (.cons (.name 2) (.cons (.name 3) (.nil)))) (.tup (.cons (.var 6) (.cons (.bin .add false (.var 3) (.int 1)) (.nil))))) (.nil)))))) (.cons (.ite (.cmp .eq (.ix (.ix (.ix (.ix (.var 0) (.int 1)) (.int 0)) (.int 0)) (.int 0)) (.str "told")) (.cons (.ret (.bl true)) (.nil)) (.nil)) (.cons (.asg (.name 7) (.lst false (.cons (.call "read_all" 13 (.cons (.var 0) (.cons (.tup (.cons (.int 0) (.cons (.int 0) (.nil)))) (.cons (.var 1) (.nil))))) (.cons (.call "read_all" 13 (.cons (.var 0) (.cons (.tup (.cons (.int 0) (.cons (.int 0) (.nil)))) (.cons (.tup (.nil)) (.nil))))) (.nil))))) (.cons (.ret (.cmp .eq (.bi .repr false (.cons (.var 7) (.nil))) (.bi .repr false (.cons (.lst false (.cons (.tup (.cons (.var 2) (.cons (.var 3) (.nil)))) (.cons (.tup (.cons (.tup (.cons (.str "on") (.cons (.tup (.cons (.int 0) (.cons (.int 0) (.nil)))) (.nil)))) (.cons (.int 0) (.nil)))) (.nil)))) (.nil))))) (.nil))))))⟩
/-- _law_turns_right(_law_m, _law_machine_here, _law_words_here); slots: 0 _law_m 1 _law_machine_here 2 _law_words_here 3 _law_lines 4 _law_k 5 _law_turn 6 _law_line 7 _law_part 8 _law_told 9 _law_count 10 _law_due -/
def f_law_turns_right : Fn := ⟨3, 11, false,
  .cons (.ite (.cmp .eq (.ix (.ix (.ix (.ix (.var 1) (.int 1)) (.int 0)) (.int 0)) (.int 0)) (.str "told")) (.cons (.ret (.bl true)) (.nil)) (.nil)) (.cons (.asg (.name 3) (.lc false [4] (.name 4) (.rng (.cons (.int 3) (.nil))) (.bl true) (.dsp true [.inr "word", .inr "spot", .inr "here"] (.cons (.call "_law_of" 16 (.cons (.var 0) (.cons (.var 2) (.nil)))) (.cons (.int 0) (.cons (.tup (.cons (.str "on") (.cons (.tup (.cons (.int 0) (.cons (.int 0) (.nil)))) (.nil)))) (.nil))))))) (.cons (.forr (.name 5) (.rng (.cons (.int 12) (.nil))) (.cons (.asg (.name 6) (.call "_law_of" 16 (.cons (.var 0) (.cons (.var 3) (.nil))))) (.cons (.asg (.name 7) (.slc false (.ix (.var 6) (.str "word")) (.ix (.var 6) (.str "spot")) (.bin .add false (.bin .add false (.ix (.var 6) (.str "spot")) (.int 1)) (.call "_law_draw" 15 (.cons (.var 0) (.cons (.int 3) (.nil))))))) (.cons (.ite (.cmp .eq (.ix (.ix (.var 6) (.str "here")) (.int 0)) (.str "on")) (.cons (.asg (.tup (.cons (.name 8) (.cons (.name 9) (.nil)))) (.call "read_all" 13 (.cons (.var 1) (.cons (.ix (.ix (.var 6) (.str "here")) (.int 1)) (.cons (.var 7) (.nil)))))) (.cons (.put2 (.var 6) (.str "here") (.var 6) (.str "spot") (.tup (.cons (.var 8) (.cons (.bin .add false (.ix (.var 6) (.str "spot")) (.var 9)) (.nil))))) (.nil))) (.nil)) (.nil))))) (.cons (.forr (.name 6) (.var 3) (.cons (.asg (.name 10) (.call "_law_told_by" 21 (.cons (.var 1) (.cons (.ix (.var 6) (.str "word")) (.nil))))) (.cons (.ite (.andd (.cmp .eq (.ix (.ix (.var 6) (.str "here")) (.int 0)) (.str "told")) (.one (.cmp .ne (.bi .repr false (.cons (.ix (.var 6) (.str "here")) (.nil))) (.bi .repr false (.cons (.tup (.cons (.str "told") (.cons (.ix (.var 10) (.int 0)) (.cons (.ix (.var 10) (.int 1)) (.nil))))) (.nil)))))) (.cons (.ret (.bl false)) (.nil)) (.nil)) (.cons (.ite (.andd (.cmp .eq (.ix (.ix (.var 6) (.str "here")) (.int 0)) (.str "on")) (.one (.cmp .ge (.ix (.var 6) (.str "spot")) (.ix (.var 10) (.int 1))))) (.cons (.ret (.bl false)) (.nil)) (.nil)) (.nil))))) (.cons (.ret (.bl true)) (.nil)))))⟩
/-- _law_row(_law_m, _law_size); slots: 0 _law_m 1 _law_size 2 _law_begun_here 3 _law_k -/
def f_law_row : Fn := ⟨2, 4, false,
  .cons (.asg (.name 2) (.bi .tuple false (.cons (.lc false [3] (.name 3) (.rng (.cons (.call "_law_draw" 15 (.cons (.var 0) (.cons (.int 4) (.nil)))) (.nil))) (.bl true) (.call "_law_draw" 15 (.cons (.var 0) (.cons (.var 1) (.nil))))) (.nil)))) (.cons (.ret (.tup (.cons (.var 2) (.cons (.bi .tuple false (.cons (.lc false [3] (.name 3) (.rng (.cons (.bin .add false (.int 1) (.call "_law_draw" 15 (.cons (.var 0) (.cons (.int 3) (.nil))))) (.nil))) (.bl true) (.call "_law_draw" 15 (.cons (.var 0) (.cons (.var 1) (.nil))))) (.nil))) (.nil))))) (.nil))⟩
/-- _law_rows_right(_law_m, _law_machine_here); slots: 0 _law_m 1 _law_machine_here 2 _law_sizes_here 3 _law_many 4 _law_rows 5 _law_size 6 _law_word 7 _law_t -/
def f_law_rows_right : Fn := ⟨2, 8, false,
  .cons (.asg (.tup (.cons (.name 2) (.cons (.name 3) (.nil)))) (.tup (.cons (.ix (.var 1) (.int 0)) (.cons (.bi .len false (.cons (.ix (.var 1) (.int 1)) (.nil))) (.nil))))) (.cons (.asg (.name 4) (.bi .tuple false (.cons (.lc false [5] (.name 5) (.var 2) (.bl true) (.call "_law_row" 25 (.cons (.var 0) (.cons (.var 5) (.nil))))) (.nil)))) (.cons (.asg (.name 6) (.lc false [7] (.name 7) (.rng (.cons (.var 3) (.nil))) (.bl true) (.call "_law_told_entry" 18 (.cons (.ix (.var 4) (.bin .mod false (.bi .int false (.cons (.var 7) (.nil))) (.bi .len false (.cons (.var 2) (.nil))))) (.cons (.bin .fdiv false (.var 7) (.bi .len false (.cons (.var 2) (.nil)))) (.nil)))))) (.cons (.ret (.cmp .eq (.bi .repr false (.cons (.call "run_on" 9 (.cons (.var 1) (.cons (.var 4) (.nil)))) (.nil))) (.bi .repr false (.cons (.call "_law_told_by" 21 (.cons (.var 1) (.cons (.var 6) (.nil)))) (.nil))))) (.nil))))⟩
/-- law(_law_script); slots: 0 _law_script 1 _law_k 2 _law_m 3 _law_sizes_here 4 _law_machine_here 5 _law_kept 6 _law_words_here 7 _law_counts 8 _law_level 9 _law_word -/
def f_law : Fn := ⟨1, 10, false,
  .cons (.forr (.name 1) (.rng (.cons (.int 2) (.nil))) (.cons (.asg (.name 2) (.call "_law_begun" 14 (.cons (.var 0) (.cons (.var 1) (.nil))))) (.cons (.asg (.name 3) (.call "_law_sizes" 17 (.cons (.var 2) (.nil)))) (.cons (.asg (.name 4) (.call "_law_machine" 19 (.cons (.var 2) (.cons (.var 3) (.cons (.bin .add false (.int 1) (.call "_law_draw" 15 (.cons (.var 2) (.cons (.int 6) (.nil))))) (.cons (.lst false (.cons (.int 0) (.cons (.int 1) (.cons (.tup (.cons (.int 1) (.cons (.int 2) (.nil)))) (.cons (.int 7) (.nil)))))) (.nil))))))) (.cons (.asg (.tup (.cons (.name 5) (.cons (.name 6) (.nil)))) (.tup (.cons (.bi .repr false (.cons (.var 4) (.nil))) (.cons (.call "_law_words" 20 (.cons (.var 3) (.cons (.bi .min false (.cons (.int 5) (.cons (.bin .sub false (.bi .len false (.cons (.ix (.var 4) (.int 1)) (.nil))) (.int 1)) (.nil)))) (.nil)))) (.nil))))) (.cons (.asg (.name 7) (.bi .tuple false (.cons (.lc false [8] (.name 8) (.ix (.var 4) (.int 1)) (.bl true) (.bi .len false (.cons (.var 8) (.nil)))) (.nil)))) (.cons (.ite (.orr (.cmp .isnot (.call "is_machine" 7 (.cons (.var 4) (.nil))) (.bl true)) (.one (.cmp .ne (.bi .repr false (.cons (.call "states_at" 8 (.cons (.var 4) (.nil))) (.nil))) (.bi .repr false (.cons (.var 7) (.nil)))))) (.cons (.ret (.bl false)) (.nil)) (.nil)) (.cons (.forr (.name 9) (.var 6) (.cons (.ite (.nott (.call "_law_word_right" 23 (.cons (.var 4) (.cons (.var 9) (.nil))))) (.cons (.ret (.bl false)) (.nil)) (.nil)) (.nil))) (.cons (.ite (.orr (.nott (.call "_law_turns_right" 24 (.cons (.var 2) (.cons (.var 4) (.cons (.var 6) (.nil)))))) (.orr (.nott (.call "_law_rows_right" 26 (.cons (.var 2) (.cons (.var 4) (.nil))))) (.one (.cmp .ne (.bi .repr false (.cons (.var 4) (.nil))) (.var 5))))) (.cons (.ret (.bl false)) (.nil)) (.nil)) (.nil)))))))))) (.cons (.ret (.bl true)) (.nil))⟩
def prg : List Fn := [f_told_entry, f_is_number, f_is_plain_data, f_is_menu, f_come_place, f_is_state, f_is_level, f_is_machine, f_states_at, f_run_on, f_opened, f_first_reader, f_read, f_read_all, f_law_begun, f_law_draw, f_law_of, f_law_sizes, f_law_told_entry, f_law_machine, f_law_words, f_law_told_by, f_law_result, f_law_word_right, f_law_turns_right, f_law_row, f_law_rows_right, f_law]
def topS (i : Nat) : Stmt := PySem.Challenge.pw_allendless_k59_whole_readers.main.body.getD i (.Pass ⟨0, 0, 0, 0⟩)
def defs : List (Str × Stmt) := [("told_entry", topS 1), ("is_number", topS 3), ("is_plain_data", topS 4), ("is_menu", topS 5), ("come_place", topS 9), ("is_state", topS 10), ("is_level", topS 11), ("is_machine", topS 12), ("states_at", topS 13), ("run_on", topS 14), ("opened", topS 15), ("first_reader", topS 16), ("read", topS 17), ("read_all", topS 18), ("_law_begun", topS 20), ("_law_draw", topS 21), ("_law_of", topS 22), ("_law_sizes", topS 23), ("_law_told_entry", topS 24), ("_law_machine", topS 25), ("_law_words", topS 26), ("_law_told_by", topS 27), ("_law_result", topS 28), ("_law_word_right", topS 29), ("_law_turns_right", topS 30), ("_law_row", topS 31), ("_law_rows_right", topS 32), ("law", topS 33)]
def tab : Tab := ⟨prg, namesFrom 0 defs, ["all", "bool", "int", "isinstance", "len", "min", "range", "repr", "sum", "tuple"], [("MOST_LEVELS", 401), ("MOST_STATES", 2000)], false⟩
theorem dt_0 : DefT tab "told_entry" (topS 1) 0 := ⟨["row", "i", "begun", "around"], ["row", "i"], f_told_entry, C8.fnScope_by (by decide +kernel),
  fun _ _ _ _ _ _ us hl => match us, hl with | [_, _], _ => rfl, rfl, rfl, rfl, by decide +kernel⟩
theorem dt_1 : DefT tab "is_number" (topS 3) 1 := ⟨["value"], ["value"], f_is_number, C8.fnScope_by (by decide +kernel),
  fun _ _ _ _ _ _ us hl => match us, hl with | [_], _ => rfl, rfl, rfl, rfl, by decide +kernel⟩
theorem dt_2 : DefT tab "is_plain_data" (topS 4) 2 := ⟨["value", "pending", "one"], ["value"], f_is_plain_data, C8.fnScope_by (by decide +kernel),
  fun _ _ _ _ _ _ us hl => match us, hl with | [_], _ => rfl, rfl, rfl, rfl, by decide +kernel⟩
theorem dt_3 : DefT tab "is_menu" (topS 5) 3 := ⟨["value", "one"], ["value"], f_is_menu, C8.fnScope_by (by decide +kernel),
  fun _ _ _ _ _ _ us hl => match us, hl with | [_], _ => rfl, rfl, rfl, rfl, by decide +kernel⟩
theorem dt_4 : DefT tab "come_place" (topS 9) 4 := ⟨["menu", "moment"], ["menu", "moment"], f_come_place, C8.fnScope_by (by decide +kernel),
  fun _ _ _ _ _ _ us hl => match us, hl with | [_, _], _ => rfl, rfl, rfl, rfl, by decide +kernel⟩
theorem dt_5 : DefT tab "is_state" (topS 10) 5 := ⟨["value", "many", "below", "number"], ["value", "many", "below"], f_is_state, C8.fnScope_by (by decide +kernel),
  fun _ _ _ _ _ _ us hl => match us, hl with | [_, _, _], _ => rfl, rfl, rfl, rfl, by decide +kernel⟩
theorem dt_6 : DefT tab "is_level" (topS 11) 6 := ⟨["menu", "levels", "moment", "level", "below", "many", "state"], ["menu", "levels", "moment"], f_is_level, C8.fnScope_by (by decide +kernel),
  fun _ _ _ _ _ _ us hl => match us, hl with | [_, _, _], _ => rfl, rfl, rfl, rfl, by decide +kernel⟩
theorem dt_7 : DefT tab "is_machine" (topS 12) 7 := ⟨["value", "menu", "levels", "moment", "state", "level"], ["value"], f_is_machine, C8.fnScope_by (by decide +kernel),
  fun _ _ _ _ _ _ us hl => match us, hl with | [_], _ => rfl, rfl, rfl, rfl, by decide +kernel⟩
theorem dt_8 : DefT tab "states_at" (topS 13) 8 := ⟨["machine", "level"], ["machine"], f_states_at, C8.fnScope_by (by decide +kernel),
  fun _ _ _ _ _ _ us hl => match us, hl with | [_], _ => rfl, rfl, rfl, rfl, by decide +kernel⟩
theorem dt_9 : DefT tab "run_on" (topS 14) 9 := ⟨["machine", "rows", "menu", "levels", "moment", "state", "index", "row"], ["machine", "rows"], f_run_on, C8.fnScope_by (by decide +kernel),
  fun _ _ _ _ _ _ us hl => match us, hl with | [_, _], _ => rfl, rfl, rfl, rfl, by decide +kernel⟩
theorem dt_10 : DefT tab "opened" (topS 15) 10 := ⟨["machine", "moment", "number", "state"], ["machine", "moment", "number"], f_opened, C8.fnScope_by (by decide +kernel),
  fun _ _ _ _ _ _ us hl => match us, hl with | [_, _, _], _ => rfl, rfl, rfl, rfl, by decide +kernel⟩
theorem dt_11 : DefT tab "first_reader" (topS 16) 11 := ⟨["machine"], ["machine"], f_first_reader, C8.fnScope_by (by decide +kernel),
  fun _ _ _ _ _ _ us hl => match us, hl with | [_], _ => rfl, rfl, rfl, rfl, by decide +kernel⟩
theorem dt_12 : DefT tab "read" (topS 17) 12 := ⟨["machine", "reader", "digit", "moment", "number"], ["machine", "reader", "digit"], f_read, C8.fnScope_by (by decide +kernel),
  fun _ _ _ _ _ _ us hl => match us, hl with | [_, _, _], _ => rfl, rfl, rfl, rfl, by decide +kernel⟩
theorem dt_13 : DefT tab "read_all" (topS 18) 13 := ⟨["machine", "reader", "digits", "result", "count"], ["machine", "reader", "digits"], f_read_all, C8.fnScope_by (by decide +kernel),
  fun _ _ _ _ _ _ us hl => match us, hl with | [_, _, _], _ => rfl, rfl, rfl, rfl, by decide +kernel⟩
theorem dt_14 : DefT tab "_law_begun" (topS 20) 14 := ⟨["_law_script", "_law_k", "_law_cells", "_law_great", "_law_cell", "_law_begun_here", "_law_left"], ["_law_script", "_law_k"], f_law_begun, C8.fnScope_by (by decide +kernel),
  fun _ _ _ _ _ _ us hl => match us, hl with | [_, _], _ => rfl, rfl, rfl, rfl, by decide +kernel⟩
theorem dt_15 : DefT tab "_law_draw" (topS 21) 15 := ⟨["_law_m", "_law_below", "_law_found", "_law_spot", "_law_cells", "_law_added", "_law_cell", "_law_blend"], ["_law_m", "_law_below"], f_law_draw, C8.fnScope_by (by decide +kernel),
  fun _ _ _ _ _ _ us hl => match us, hl with | [_, _], _ => rfl, rfl, rfl, rfl, by decide +kernel⟩
theorem dt_16 : DefT tab "_law_of" (topS 22) 16 := ⟨["_law_m", "_law_some"], ["_law_m", "_law_some"], f_law_of, C8.fnScope_by (by decide +kernel),
  fun _ _ _ _ _ _ us hl => match us, hl with | [_, _], _ => rfl, rfl, rfl, rfl, by decide +kernel⟩
theorem dt_17 : DefT tab "_law_sizes" (topS 23) 17 := ⟨["_law_m", "_law_k"], ["_law_m"], f_law_sizes, C8.fnScope_by (by decide +kernel),
  fun _ _ _ _ _ _ us hl => match us, hl with | [_], _ => rfl, rfl, rfl, rfl, by decide +kernel⟩
theorem dt_18 : DefT tab "_law_told_entry" (topS 24) 18 := ⟨["_law_row_here", "_law_i", "_law_begun_here", "_law_more"], ["_law_row_here", "_law_i"], f_law_told_entry, C8.fnScope_by (by decide +kernel),
  fun _ _ _ _ _ _ us hl => match us, hl with | [_, _], _ => rfl, rfl, rfl, rfl, by decide +kernel⟩
theorem dt_19 : DefT tab "_law_machine" (topS 25) 19 := ⟨["_law_m", "_law_sizes_here", "_law_many", "_law_ends", "_law_counts", "_law_k", "_law_levels", "_law_t", "_law_states", "_law_n", "_law_size", "_law_d"], ["_law_m", "_law_sizes_here", "_law_many", "_law_ends"], f_law_machine, C8.fnScope_by (by decide +kernel),
  fun _ _ _ _ _ _ us hl => match us, hl with | [_, _, _, _], _ => rfl, rfl, rfl, rfl, by decide +kernel⟩
theorem dt_20 : DefT tab "_law_words" (topS 26) 20 := ⟨["_law_sizes_here", "_law_many", "_law_found", "_law_t", "_law_longer", "_law_word", "_law_d"], ["_law_sizes_here", "_law_many"], f_law_words, C8.fnScope_by (by decide +kernel),
  fun _ _ _ _ _ _ us hl => match us, hl with | [_, _], _ => rfl, rfl, rfl, rfl, by decide +kernel⟩
theorem dt_21 : DefT tab "_law_told_by" (topS 27) 21 := ⟨["_law_machine_here", "_law_word", "_law_state", "_law_t"], ["_law_machine_here", "_law_word"], f_law_told_by, C8.fnScope_by (by decide +kernel),
  fun _ _ _ _ _ _ us hl => match us, hl with | [_, _], _ => rfl, rfl, rfl, rfl, by decide +kernel⟩
theorem dt_22 : DefT tab "_law_result" (topS 28) 22 := ⟨["_law_machine_here", "_law_t", "_law_n", "_law_state"], ["_law_machine_here", "_law_t", "_law_n"], f_law_result, C8.fnScope_by (by decide +kernel),
  fun _ _ _ _ _ _ us hl => match us, hl with | [_, _, _], _ => rfl, rfl, rfl, rfl, by decide +kernel⟩
theorem dt_23 : DefT tab "_law_word_right" (topS 29) 23 := ⟨["_law_machine_here", "_law_word", "_law_here", "_law_count", "_law_t", "_law_n", "_law_after", "_law_told"], ["_law_machine_here", "_law_word"], f_law_word_right, C8.fnScope_by (by decide +kernel),
  fun _ _ _ _ _ _ us hl => match us, hl with | [_, _], _ => rfl, rfl, rfl, rfl, by decide +kernel⟩
theorem dt_24 : DefT tab "_law_turns_right" (topS 30) 24 := ⟨["_law_m", "_law_machine_here", "_law_words_here", "_law_lines", "_law_k", "_law_turn", "_law_line", "_law_part", "_law_told", "_law_count", "_law_due"], ["_law_m", "_law_machine_here", "_law_words_here"], f_law_turns_right, C8.fnScope_by (by decide +kernel),
  fun _ _ _ _ _ _ us hl => match us, hl with | [_, _, _], _ => rfl, rfl, rfl, rfl, by decide +kernel⟩
theorem dt_25 : DefT tab "_law_row" (topS 31) 25 := ⟨["_law_m", "_law_size", "_law_begun_here", "_law_k"], ["_law_m", "_law_size"], f_law_row, C8.fnScope_by (by decide +kernel),
  fun _ _ _ _ _ _ us hl => match us, hl with | [_, _], _ => rfl, rfl, rfl, rfl, by decide +kernel⟩
theorem dt_26 : DefT tab "_law_rows_right" (topS 32) 26 := ⟨["_law_m", "_law_machine_here", "_law_sizes_here", "_law_many", "_law_rows", "_law_size", "_law_word", "_law_t"], ["_law_m", "_law_machine_here"], f_law_rows_right, C8.fnScope_by (by decide +kernel),
  fun _ _ _ _ _ _ us hl => match us, hl with | [_, _], _ => rfl, rfl, rfl, rfl, by decide +kernel⟩
theorem dt_27 : DefT tab "law" (topS 33) 27 := ⟨["_law_script", "_law_k", "_law_m", "_law_sizes_here", "_law_machine_here", "_law_kept", "_law_words_here", "_law_counts", "_law_level", "_law_word"], ["_law_script"], f_law, C8.fnScope_by (by decide +kernel),
  fun _ _ _ _ _ _ us hl => match us, hl with | [_], _ => rfl, rfl, rfl, rfl, by decide +kernel⟩
theorem dts : ∀ i d, defs[i]? = some d → DefT tab d.1 d.2 i := fun i d h => by
  match i, h with
  | 0, h => cases h; exact dt_0
  | 1, h => cases h; exact dt_1
  | 2, h => cases h; exact dt_2
  | 3, h => cases h; exact dt_3
  | 4, h => cases h; exact dt_4
  | 5, h => cases h; exact dt_5
  | 6, h => cases h; exact dt_6
  | 7, h => cases h; exact dt_7
  | 8, h => cases h; exact dt_8
  | 9, h => cases h; exact dt_9
  | 10, h => cases h; exact dt_10
  | 11, h => cases h; exact dt_11
  | 12, h => cases h; exact dt_12
  | 13, h => cases h; exact dt_13
  | 14, h => cases h; exact dt_14
  | 15, h => cases h; exact dt_15
  | 16, h => cases h; exact dt_16
  | 17, h => cases h; exact dt_17
  | 18, h => cases h; exact dt_18
  | 19, h => cases h; exact dt_19
  | 20, h => cases h; exact dt_20
  | 21, h => cases h; exact dt_21
  | 22, h => cases h; exact dt_22
  | 23, h => cases h; exact dt_23
  | 24, h => cases h; exact dt_24
  | 25, h => cases h; exact dt_25
  | 26, h => cases h; exact dt_26
  | 27, h => cases h; exact dt_27
  | _ + 28, h => cases h
end Lw
/-! k59: what the defs compute. -/
namespace Lw
open Mi
/-- the values that ends bear -/
def IsV (v : D) : Prop := v = .int 0 ∨ v = .int 1 ∨ v = .tup [.int 1, .int 2] ∨ v = .int 7
theorem IsV.ok {v : D} (h : IsV v) (n : Nat) : v.okR n = true := by rcases h with rfl | rfl | rfl | rfl <;> rfl
inductive Sta where
  | told (v : D)
  | go (l : List Nat)
def natsD (l : List Nat) : D := .tup (l.map fun (n : Nat) => D.int n)
def Sta.d : Sta → D
  | .told v => .tup [.str "told", v]
  | .go l => .tup [.str "go", natsD l]
def levD (l : List Sta) : D := .tup (l.map Sta.d)
def levsD (l : List (List Sta)) : D := .tup (l.map levD)
def macD (sizes : List Nat) (levs : List (List Sta)) : D := .tup [natsD sizes, levsD levs]
theorem c_num {k : Nat} {i : Int} {h : MH} {Q : D → MH → Prop} (h0 : 0 ≤ i) (w : Q (.bl true) h) : Wc (callF prg (k + 1)) 1 [.int i] h Q := by
  refine wc_at (fn := f_is_number) rfl rfl ?_
  simp [f_is_number, ws_nil, ws_pass, ws_brk, ws_cnt, ws_ret0, ws_cons, nxt_rt, nxt_bk, nxt_ct, ws_asg, ws_put, ws_expr, ws_ret, ws_ite, we_var, we_int, we_str, we_bl, we_non, we_nopart, we_gint, we_gfn, we_bin, we_neg, we_cmp, we_chain, we_andd, we_orr, we_one, we_nott, we_ite, wl_nil, wl_cons, we_tup, we_lst, we_dct, we_dsp, we_call, we_callv, we_bi, we_isi, isiD, we_ix, we_slc, we_rev, we_me, we_frz, we_rng, wf_rt, wf_nx, wr_ok, wr_opt, wr_grd, wr_err, asgD, deref_int, deref_tup, deref_lst, deref_str, deref_bl, deref_non, deref_dK, deref_dT, deref_scr, deref_fn, isObj, bin_add, bin_addS, bin_addT, bin_addL, bin_sub, bin_mul, bin_mulL, bin_mulT, bin_fdiv, bin_mod, bin_pow, cmp_eq, cmp_ne, cmp_lt, cmp_le, cmp_gt, cmp_ge, cmp_isB, cmp_isnotB, cmp_is, cmp_isnot, cmp_inn, cmp_notin, eq_int, eq_str, eq_bl, tru_non, tru_bl, tru_int, tru_tup, tru_lst, tru_dK, ix_tup, ix_lst, ix_dK, ix_dT, bi_lenT, bi_lenL, bi_lenS, bi_int, bi_intB, bi_tupT, bi_tupL, bi_lisT, bi_lisL, bi_repr, bi_all, bi_any, bi_sum, bi_max, bi_min, bi_abs, bi_gcd, in_lst, in_tup, in_dK, in_dT, get_dKi, get_dKs, get_dTt, put_dKi, put_dKs, put_dTt, put_lst, key_int, key_str, keys_nil, keys_cons, slc_tup, slc_lst, slc_scr, end_t, end_f, ty_app, ty_pop, ty_ext, ty_getK, ty_getT, ok_int, ok_str, ok_non, isNop, and_assoc, at_0, at_1, at_2, at_3, isiD, h0]
  exact wr_fin rfl take_self w
/-- plain data, by its weight -/
inductive PlN : Nat → D → Prop where
  | int {i : Int} (h : 0 ≤ i) : PlN 1 (.int i)
  | pair {a b : D} {m n : Nat} (ha : PlN m a) (hb : PlN n b) : PlN (m + n + 1) (.tup [a, b])
inductive PlL : Nat → List D → Prop where
  | nil : PlL 0 []
  | snoc {l : List D} {x : D} {m n : Nat} (hl : PlL m l) (hx : PlN n x) : PlL (m + n) (l ++ [x])
theorem PlN.ok {n : Nat} {d : D} (p : PlN n d) (k : Nat) : d.okR k = true := by
  induction p with
  | int _ => rfl
  | pair _ _ iha ihb =>
    show (D.okR k _ && (D.okR k _ && true)) = true
    rw [iha, ihb]; rfl
theorem PlN.pos {n : Nat} {d : D} (p : PlN n d) : 0 < n := by cases p <;> omega
theorem PlL.len {n : Nat} {l : List D} (p : PlL n l) : l.length ≤ n := by
  induction p with
  | nil => exact Nat.le_refl _
  | snoc hl hx ih =>
    have := hx.pos
    rw [List.length_append, List.length_singleton]
    omega
theorem c_plain {k m : Nat} {v : D} {h : MH} {Q : D → MH → Prop} (hv : PlN m v) (hm : m < 1000000) (w : Q (.bl true) h) : Wc (callF prg (k + 2)) 2 [v] h Q := by
  refine wc_at (fn := f_is_plain_data) rfl rfl ?_
  simp [f_is_plain_data, ws_nil, ws_pass, ws_brk, ws_cnt, ws_ret0, ws_cons, nxt_rt, nxt_bk, nxt_ct, ws_asg, ws_put, ws_expr, ws_ret, ws_ite, we_var, we_int, we_str, we_bl, we_non, we_nopart, we_gint, we_gfn, we_bin, we_neg, we_cmp, we_chain, we_andd, we_orr, we_one, we_nott, we_ite, wl_nil, wl_cons, we_tup, we_lst, we_dct, we_dsp, we_call, we_callv, we_bi, we_isi, isiD, we_ix, we_slc, we_rev, we_me, we_frz, we_rng, wf_rt, wf_nx, wr_ok, wr_opt, wr_grd, wr_err, asgD, deref_int, deref_tup, deref_lst, deref_str, deref_bl, deref_non, deref_dK, deref_dT, deref_scr, deref_fn, isObj, bin_add, bin_addS, bin_addT, bin_addL, bin_sub, bin_mul, bin_mulL, bin_mulT, bin_fdiv, bin_mod, bin_pow, cmp_eq, cmp_ne, cmp_lt, cmp_le, cmp_gt, cmp_ge, cmp_isB, cmp_isnotB, cmp_is, cmp_isnot, cmp_inn, cmp_notin, eq_int, eq_str, eq_bl, tru_non, tru_bl, tru_int, tru_tup, tru_lst, tru_dK, ix_tup, ix_lst, ix_dK, ix_dT, bi_lenT, bi_lenL, bi_lenS, bi_int, bi_intB, bi_tupT, bi_tupL, bi_lisT, bi_lisL, bi_repr, bi_all, bi_any, bi_sum, bi_max, bi_min, bi_abs, bi_gcd, in_lst, in_tup, in_dK, in_dT, get_dKi, get_dKs, get_dTt, put_dKi, put_dKs, put_dTt, put_lst, key_int, key_str, keys_nil, keys_cons, slc_tup, slc_lst, slc_scr, end_t, end_f, ty_app, ty_pop, ty_ext, ty_getK, ty_getT, ok_int, ok_str, ok_non, isNop, and_assoc, at_0, at_1, at_2, at_3, szL]
  rw [nxt_nx, ws_cons]
  refine ws_whil (I := fun m' σ h' => ∃ l e, σ = [some v, some (.ref h.length), e] ∧ h' = h ++ [.lst l] ∧ PlL m' l ∧ m' ≤ m) m (by unfold wfuel; omega) ⟨[v], none, rfl, rfl, by simpa using PlL.snoc .nil hv, Nat.le_refl _⟩ ?_
  rintro m2 σ h' ⟨l, e, rfl, rfl, hl, hz⟩
  have d0 : deref (h ++ [.lst l]) (.ref h.length) = .lst l := deref_ref get_o rfl
  cases hl with
  | nil =>
    simp [ws_nil, ws_pass, ws_brk, ws_cnt, ws_ret0, ws_cons, nxt_rt, nxt_bk, nxt_ct, ws_asg, ws_put, ws_expr, ws_ret, ws_ite, we_var, we_int, we_str, we_bl, we_non, we_nopart, we_gint, we_gfn, we_bin, we_neg, we_cmp, we_chain, we_andd, we_orr, we_one, we_nott, we_ite, wl_nil, wl_cons, we_tup, we_lst, we_dct, we_dsp, we_call, we_callv, we_bi, we_isi, isiD, we_ix, we_slc, we_rev, we_me, we_frz, we_rng, wf_rt, wf_nx, wr_ok, wr_opt, wr_grd, wr_err, asgD, deref_int, deref_tup, deref_lst, deref_str, deref_bl, deref_non, deref_dK, deref_dT, deref_scr, deref_fn, isObj, bin_add, bin_addS, bin_addT, bin_addL, bin_sub, bin_mul, bin_mulL, bin_mulT, bin_fdiv, bin_mod, bin_pow, cmp_eq, cmp_ne, cmp_lt, cmp_le, cmp_gt, cmp_ge, cmp_isB, cmp_isnotB, cmp_is, cmp_isnot, cmp_inn, cmp_notin, eq_int, eq_str, eq_bl, tru_non, tru_bl, tru_int, tru_tup, tru_lst, tru_dK, ix_tup, ix_lst, ix_dK, ix_dT, bi_lenT, bi_lenL, bi_lenS, bi_int, bi_intB, bi_tupT, bi_tupL, bi_lisT, bi_lisL, bi_repr, bi_all, bi_any, bi_sum, bi_max, bi_min, bi_abs, bi_gcd, in_lst, in_tup, in_dK, in_dT, get_dKi, get_dKs, get_dTt, put_dKi, put_dKs, put_dTt, put_lst, key_int, key_str, keys_nil, keys_cons, slc_tup, slc_lst, slc_scr, end_t, end_f, ty_app, ty_pop, ty_ext, ty_getK, ty_getT, ok_int, ok_str, ok_non, isNop, and_assoc, at_0, at_1, at_2, at_3, d0]
    rw [nxt_nx]
    simp [ws_nil, ws_pass, ws_brk, ws_cnt, ws_ret0, ws_cons, nxt_rt, nxt_bk, nxt_ct, ws_asg, ws_put, ws_expr, ws_ret, ws_ite, we_var, we_int, we_str, we_bl, we_non, we_nopart, we_gint, we_gfn, we_bin, we_neg, we_cmp, we_chain, we_andd, we_orr, we_one, we_nott, we_ite, wl_nil, wl_cons, we_tup, we_lst, we_dct, we_dsp, we_call, we_callv, we_bi, we_isi, isiD, we_ix, we_slc, we_rev, we_me, we_frz, we_rng, wf_rt, wf_nx, wr_ok, wr_opt, wr_grd, wr_err, asgD, deref_int, deref_tup, deref_lst, deref_str, deref_bl, deref_non, deref_dK, deref_dT, deref_scr, deref_fn, isObj, bin_add, bin_addS, bin_addT, bin_addL, bin_sub, bin_mul, bin_mulL, bin_mulT, bin_fdiv, bin_mod, bin_pow, cmp_eq, cmp_ne, cmp_lt, cmp_le, cmp_gt, cmp_ge, cmp_isB, cmp_isnotB, cmp_is, cmp_isnot, cmp_inn, cmp_notin, eq_int, eq_str, eq_bl, tru_non, tru_bl, tru_int, tru_tup, tru_lst, tru_dK, ix_tup, ix_lst, ix_dK, ix_dT, bi_lenT, bi_lenL, bi_lenS, bi_int, bi_intB, bi_tupT, bi_tupL, bi_lisT, bi_lisL, bi_repr, bi_all, bi_any, bi_sum, bi_max, bi_min, bi_abs, bi_gcd, in_lst, in_tup, in_dK, in_dT, get_dKi, get_dKs, get_dTt, put_dKi, put_dKs, put_dTt, put_lst, key_int, key_str, keys_nil, keys_cons, slc_tup, slc_lst, slc_scr, end_t, end_f, ty_app, ty_pop, ty_ext, ty_getK, ty_getT, ok_int, ok_str, ok_non, isNop, and_assoc, at_0, at_1, at_2, at_3]
    exact wr_fin rfl take_app w
  | @snoc l x m1 n1 hl hx =>
    have px := hx.pos
    have ll := hl.len
    have gx : (h ++ [D.lst l])[h.length]? = some (.lst l) := get_o
    have hz1 : l.length + 2 ≤ szL := by unfold szL; omega
    simp [ws_nil, ws_pass, ws_brk, ws_cnt, ws_ret0, ws_cons, nxt_rt, nxt_bk, nxt_ct, ws_asg, ws_put, ws_expr, ws_ret, ws_ite, we_var, we_int, we_str, we_bl, we_non, we_nopart, we_gint, we_gfn, we_bin, we_neg, we_cmp, we_chain, we_andd, we_orr, we_one, we_nott, we_ite, wl_nil, wl_cons, we_tup, we_lst, we_dct, we_dsp, we_call, we_callv, we_bi, we_isi, isiD, we_ix, we_slc, we_rev, we_me, we_frz, we_rng, wf_rt, wf_nx, wr_ok, wr_opt, wr_grd, wr_err, asgD, deref_int, deref_tup, deref_lst, deref_str, deref_bl, deref_non, deref_dK, deref_dT, deref_scr, deref_fn, isObj, bin_add, bin_addS, bin_addT, bin_addL, bin_sub, bin_mul, bin_mulL, bin_mulT, bin_fdiv, bin_mod, bin_pow, cmp_eq, cmp_ne, cmp_lt, cmp_le, cmp_gt, cmp_ge, cmp_isB, cmp_isnotB, cmp_is, cmp_isnot, cmp_inn, cmp_notin, eq_int, eq_str, eq_bl, tru_non, tru_bl, tru_int, tru_tup, tru_lst, tru_dK, ix_tup, ix_lst, ix_dK, ix_dT, bi_lenT, bi_lenL, bi_lenS, bi_int, bi_intB, bi_tupT, bi_tupL, bi_lisT, bi_lisL, bi_repr, bi_all, bi_any, bi_sum, bi_max, bi_min, bi_abs, bi_gcd, in_lst, in_tup, in_dK, in_dT, get_dKi, get_dKs, get_dTt, put_dKi, put_dKs, put_dTt, put_lst, key_int, key_str, keys_nil, keys_cons, slc_tup, slc_lst, slc_scr, end_t, end_f, ty_app, ty_pop, ty_ext, ty_getK, ty_getT, ok_int, ok_str, ok_non, isNop, and_assoc, at_0, at_1, at_2, at_3, d0, me_pop get_o, set_o]
    refine ⟨by omega, ?_⟩
    rw [nxt_nx, ws_cons]
    cases hx with
    | @int i hi =>
      simp [ws_nil, ws_pass, ws_brk, ws_cnt, ws_ret0, ws_cons, nxt_rt, nxt_bk, nxt_ct, ws_asg, ws_put, ws_expr, ws_ret, ws_ite, we_var, we_int, we_str, we_bl, we_non, we_nopart, we_gint, we_gfn, we_bin, we_neg, we_cmp, we_chain, we_andd, we_orr, we_one, we_nott, we_ite, wl_nil, wl_cons, we_tup, we_lst, we_dct, we_dsp, we_call, we_callv, we_bi, we_isi, isiD, we_ix, we_slc, we_rev, we_me, we_frz, we_rng, wf_rt, wf_nx, wr_ok, wr_opt, wr_grd, wr_err, asgD, deref_int, deref_tup, deref_lst, deref_str, deref_bl, deref_non, deref_dK, deref_dT, deref_scr, deref_fn, isObj, bin_add, bin_addS, bin_addT, bin_addL, bin_sub, bin_mul, bin_mulL, bin_mulT, bin_fdiv, bin_mod, bin_pow, cmp_eq, cmp_ne, cmp_lt, cmp_le, cmp_gt, cmp_ge, cmp_isB, cmp_isnotB, cmp_is, cmp_isnot, cmp_inn, cmp_notin, eq_int, eq_str, eq_bl, tru_non, tru_bl, tru_int, tru_tup, tru_lst, tru_dK, ix_tup, ix_lst, ix_dK, ix_dT, bi_lenT, bi_lenL, bi_lenS, bi_int, bi_intB, bi_tupT, bi_tupL, bi_lisT, bi_lisL, bi_repr, bi_all, bi_any, bi_sum, bi_max, bi_min, bi_abs, bi_gcd, in_lst, in_tup, in_dK, in_dT, get_dKi, get_dKs, get_dTt, put_dKi, put_dKs, put_dTt, put_lst, key_int, key_str, keys_nil, keys_cons, slc_tup, slc_lst, slc_scr, end_t, end_f, ty_app, ty_pop, ty_ext, ty_getK, ty_getT, ok_int, ok_str, ok_non, isNop, and_assoc, at_0, at_1, at_2, at_3]
      refine c_num hi ?_
      simp [ws_nil, ws_pass, ws_brk, ws_cnt, ws_ret0, ws_cons, nxt_rt, nxt_bk, nxt_ct, ws_asg, ws_put, ws_expr, ws_ret, ws_ite, we_var, we_int, we_str, we_bl, we_non, we_nopart, we_gint, we_gfn, we_bin, we_neg, we_cmp, we_chain, we_andd, we_orr, we_one, we_nott, we_ite, wl_nil, wl_cons, we_tup, we_lst, we_dct, we_dsp, we_call, we_callv, we_bi, we_isi, isiD, we_ix, we_slc, we_rev, we_me, we_frz, we_rng, wf_rt, wf_nx, wr_ok, wr_opt, wr_grd, wr_err, asgD, deref_int, deref_tup, deref_lst, deref_str, deref_bl, deref_non, deref_dK, deref_dT, deref_scr, deref_fn, isObj, bin_add, bin_addS, bin_addT, bin_addL, bin_sub, bin_mul, bin_mulL, bin_mulT, bin_fdiv, bin_mod, bin_pow, cmp_eq, cmp_ne, cmp_lt, cmp_le, cmp_gt, cmp_ge, cmp_isB, cmp_isnotB, cmp_is, cmp_isnot, cmp_inn, cmp_notin, eq_int, eq_str, eq_bl, tru_non, tru_bl, tru_int, tru_tup, tru_lst, tru_dK, ix_tup, ix_lst, ix_dK, ix_dT, bi_lenT, bi_lenL, bi_lenS, bi_int, bi_intB, bi_tupT, bi_tupL, bi_lisT, bi_lisL, bi_repr, bi_all, bi_any, bi_sum, bi_max, bi_min, bi_abs, bi_gcd, in_lst, in_tup, in_dK, in_dT, get_dKi, get_dKs, get_dTt, put_dKi, put_dKs, put_dTt, put_lst, key_int, key_str, keys_nil, keys_cons, slc_tup, slc_lst, slc_scr, end_t, end_f, ty_app, ty_pop, ty_ext, ty_getK, ty_getT, ok_int, ok_str, ok_non, isNop, and_assoc, at_0, at_1, at_2, at_3]
      rw [nxt_nx, ws_nil, nxt_nx, ws_nil]
      exact ⟨⟨_, rfl⟩, _, rfl, by simpa using hl, by omega⟩
    | @pair a b p q ha hb =>
      have oka := ha.ok h.length
      have okb := hb.ok h.length
      have d3 : deref (h ++ [.lst l]) (.ref h.length) = .lst l := deref_ref get_o rfl
      have pl : PlL (m1 + (p + q + 1) - 1) (l ++ [a, b]) := by
        have := PlL.snoc (PlL.snoc hl ha) hb
        have e1 : m1 + (p + q + 1) - 1 = m1 + p + q := by omega
        rw [e1]
        simpa using this
      simp [ws_nil, ws_pass, ws_brk, ws_cnt, ws_ret0, ws_cons, nxt_rt, nxt_bk, nxt_ct, ws_asg, ws_put, ws_expr, ws_ret, ws_ite, we_var, we_int, we_str, we_bl, we_non, we_nopart, we_gint, we_gfn, we_bin, we_neg, we_cmp, we_chain, we_andd, we_orr, we_one, we_nott, we_ite, wl_nil, wl_cons, we_tup, we_lst, we_dct, we_dsp, we_call, we_callv, we_bi, we_isi, isiD, we_ix, we_slc, we_rev, we_me, we_frz, we_rng, wf_rt, wf_nx, wr_ok, wr_opt, wr_grd, wr_err, asgD, deref_int, deref_tup, deref_lst, deref_str, deref_bl, deref_non, deref_dK, deref_dT, deref_scr, deref_fn, isObj, bin_add, bin_addS, bin_addT, bin_addL, bin_sub, bin_mul, bin_mulL, bin_mulT, bin_fdiv, bin_mod, bin_pow, cmp_eq, cmp_ne, cmp_lt, cmp_le, cmp_gt, cmp_ge, cmp_isB, cmp_isnotB, cmp_is, cmp_isnot, cmp_inn, cmp_notin, eq_int, eq_str, eq_bl, tru_non, tru_bl, tru_int, tru_tup, tru_lst, tru_dK, ix_tup, ix_lst, ix_dK, ix_dT, bi_lenT, bi_lenL, bi_lenS, bi_int, bi_intB, bi_tupT, bi_tupL, bi_lisT, bi_lisL, bi_repr, bi_all, bi_any, bi_sum, bi_max, bi_min, bi_abs, bi_gcd, in_lst, in_tup, in_dK, in_dT, get_dKi, get_dKs, get_dTt, put_dKi, put_dKs, put_dTt, put_lst, key_int, key_str, keys_nil, keys_cons, slc_tup, slc_lst, slc_scr, end_t, end_f, ty_app, ty_pop, ty_ext, ty_getK, ty_getT, ok_int, ok_str, ok_non, isNop, and_assoc, at_0, at_1, at_2, at_3, me_ext gx, things, hz1, D.okRs, oka, okb, set_o, d3]
      rw [nxt_nx, ws_nil, nxt_nx, ws_nil]
      exact ⟨⟨_, rfl⟩, _, rfl, by simpa using pl, by omega⟩
theorem c_place {k L m : Nat} {sizes : List Nat} {h : MH} {Q : D → MH → Prop} (hs : 0 < sizes.length) (hs2 : sizes.length ≤ 4) (w : Q (.tup [.int ((m / sizes.length : Nat) : Int), .int ((m % sizes.length : Nat) : Int)]) h) : Wc (callF prg (k + 1)) 4 [natsD sizes, .int m] h Q := by
  refine wc_at (fn := f_come_place) rfl rfl ?_
  have dv : ∀ j : Int, divOk j (sizes.length : Int) = true := fun j => divOk_lt (n := 62) (by omega) (by omega) (by decide)
  have mo : ∀ j : Int, mulOk j (sizes.length : Int) = true := fun j => mulOk_r (by omega) (by omega)
  simp [f_come_place, ws_nil, ws_pass, ws_brk, ws_cnt, ws_ret0, ws_cons, nxt_rt, nxt_bk, nxt_ct, ws_asg, ws_put, ws_expr, ws_ret, ws_ite, we_var, we_int, we_str, we_bl, we_non, we_nopart, we_gint, we_gfn, we_bin, we_neg, we_cmp, we_chain, we_andd, we_orr, we_one, we_nott, we_ite, wl_nil, wl_cons, we_tup, we_lst, we_dct, we_dsp, we_call, we_callv, we_bi, we_isi, isiD, we_ix, we_slc, we_rev, we_me, we_frz, we_rng, wf_rt, wf_nx, wr_ok, wr_opt, wr_grd, wr_err, asgD, deref_int, deref_tup, deref_lst, deref_str, deref_bl, deref_non, deref_dK, deref_dT, deref_scr, deref_fn, isObj, bin_add, bin_addS, bin_addT, bin_addL, bin_sub, bin_mul, bin_mulL, bin_mulT, bin_fdiv, bin_mod, bin_pow, cmp_eq, cmp_ne, cmp_lt, cmp_le, cmp_gt, cmp_ge, cmp_isB, cmp_isnotB, cmp_is, cmp_isnot, cmp_inn, cmp_notin, eq_int, eq_str, eq_bl, tru_non, tru_bl, tru_int, tru_tup, tru_lst, tru_dK, ix_tup, ix_lst, ix_dK, ix_dT, bi_lenT, bi_lenL, bi_lenS, bi_int, bi_intB, bi_tupT, bi_tupL, bi_lisT, bi_lisL, bi_repr, bi_all, bi_any, bi_sum, bi_max, bi_min, bi_abs, bi_gcd, in_lst, in_tup, in_dK, in_dT, get_dKi, get_dKs, get_dTt, put_dKi, put_dKs, put_dTt, put_lst, key_int, key_str, keys_nil, keys_cons, slc_tup, slc_lst, slc_scr, end_t, end_f, ty_app, ty_pop, ty_ext, ty_getK, ty_getT, ok_int, ok_str, ok_non, isNop, and_assoc, at_0, at_1, at_2, at_3, natsD, dv, mo, szL]
  refine wr_fin rfl take_self ?_
  have e : ((m : Int) - (m : Int) / (sizes.length : Int) * (sizes.length : Int)) = ((m % sizes.length : Nat) : Int) := by
    have h1 := Nat.div_add_mod m sizes.length
    have h2 : (m : Int) = (sizes.length : Int) * ((m / sizes.length : Nat) : Int) + ((m % sizes.length : Nat) : Int) := by exact_mod_cast h1.symm
    have h3 : ((m / sizes.length : Nat) : Int) = (m : Int) / (sizes.length : Int) := by simp
    rw [h3] at h2
    rw [Int.mul_comm ((m : Int) / (sizes.length : Int))]
    generalize (sizes.length : Int) * ((m : Int) / (sizes.length : Int)) = z at *
    omega
  rw [e]
  simpa using w
theorem allB_rep : ∀ n : Nat, allB (List.replicate n (.bl true)) = some (List.replicate n true)
  | 0 => rfl
  | n + 1 => by
    rw [List.replicate_succ]
    unfold allB
    rw [allB_rep n]; rfl
theorem all_rep (n : Nat) : biD .all [.lst (List.replicate n (.bl true))] = some (.bl true) := by
  show (allB (List.replicate n (.bl true))).map (fun bs => D.bl (bs.all id)) = _
  rw [allB_rep]
  simp
theorem nat_at {l : List Nat} {i : Nat} {x : D} (h : (l.map fun (n : Nat) => D.int n)[i]? = some x) : ∃ n : Nat, x = .int n ∧ l[i]? = some n := by
  rw [List.getElem?_map] at h
  cases e : l[i]? with
  | none => rw [e] at h; cases h
  | some d =>
    rw [e] at h
    exact ⟨d, (Option.some.inj h).symm, rfl⟩
theorem c_menu {k : Nat} {sizes : List Nat} {h : MH} {Q : D → MH → Prop} (h4 : sizes.length ≤ 4) (hs : ∀ n ∈ sizes, 2 ≤ n ∧ n ≤ 9) (w : Q (.bl true) h) : Wc (callF prg (k + 2)) 3 [natsD sizes] h Q := by
  refine wc_at (fn := f_is_menu) rfl rfl ?_
  have n4 : ¬ (4 : Int) < sizes.length := by omega
  simp [f_is_menu, ws_nil, ws_pass, ws_brk, ws_cnt, ws_ret0, ws_cons, nxt_rt, nxt_bk, nxt_ct, ws_asg, ws_put, ws_expr, ws_ret, ws_ite, we_var, we_int, we_str, we_bl, we_non, we_nopart, we_gint, we_gfn, we_bin, we_neg, we_cmp, we_chain, we_andd, we_orr, we_one, we_nott, we_ite, wl_nil, wl_cons, we_tup, we_lst, we_dct, we_dsp, we_call, we_callv, we_bi, we_isi, isiD, we_ix, we_slc, we_rev, we_me, we_frz, we_rng, wf_rt, wf_nx, wr_ok, wr_opt, wr_grd, wr_err, asgD, deref_int, deref_tup, deref_lst, deref_str, deref_bl, deref_non, deref_dK, deref_dT, deref_scr, deref_fn, isObj, bin_add, bin_addS, bin_addT, bin_addL, bin_sub, bin_mul, bin_mulL, bin_mulT, bin_fdiv, bin_mod, bin_pow, cmp_eq, cmp_ne, cmp_lt, cmp_le, cmp_gt, cmp_ge, cmp_isB, cmp_isnotB, cmp_is, cmp_isnot, cmp_inn, cmp_notin, eq_int, eq_str, eq_bl, tru_non, tru_bl, tru_int, tru_tup, tru_lst, tru_dK, ix_tup, ix_lst, ix_dK, ix_dT, bi_lenT, bi_lenL, bi_lenS, bi_int, bi_intB, bi_tupT, bi_tupL, bi_lisT, bi_lisL, bi_repr, bi_all, bi_any, bi_sum, bi_max, bi_min, bi_abs, bi_gcd, in_lst, in_tup, in_dK, in_dT, get_dKi, get_dKs, get_dTt, put_dKi, put_dKs, put_dTt, put_lst, key_int, key_str, keys_nil, keys_cons, slc_tup, slc_lst, slc_scr, end_t, end_f, ty_app, ty_pop, ty_ext, ty_getK, ty_getT, ok_int, ok_str, ok_non, isNop, and_assoc, at_0, at_1, at_2, at_3, natsD, n4]
  have n5 : ¬ 4 < sizes.length := by omega
  try simp [n5]
  rw [nxt_nx]
  simp only [ws_cons, ws_ret, we_bi, wl_cons]
  refine we_lcI (I := fun j acc h2 => acc = List.replicate j (.bl true) ∧ h2 = h) ?_
  rw [we_var]
  refine ⟨_, rfl, sizes.map (fun (n : Nat) => D.int n), rfl, by rw [List.length_map]; unfold szL; omega, ⟨rfl, rfl⟩, ?_, ?_⟩
  · rintro j x acc h2 hx ⟨rfl, rfl⟩
    obtain ⟨n, rfl, hn⟩ := nat_at hx
    obtain ⟨a1, a2⟩ := hs n (List.mem_of_getElem? hn)
    refine ⟨_, rfl, ?_⟩
    simp [ws_nil, ws_pass, ws_brk, ws_cnt, ws_ret0, ws_cons, nxt_rt, nxt_bk, nxt_ct, ws_asg, ws_put, ws_expr, ws_ret, ws_ite, we_var, we_int, we_str, we_bl, we_non, we_nopart, we_gint, we_gfn, we_bin, we_neg, we_cmp, we_chain, we_andd, we_orr, we_one, we_nott, we_ite, wl_nil, wl_cons, we_tup, we_lst, we_dct, we_dsp, we_call, we_callv, we_bi, we_isi, isiD, we_ix, we_slc, we_rev, we_me, we_frz, we_rng, wf_rt, wf_nx, wr_ok, wr_opt, wr_grd, wr_err, asgD, deref_int, deref_tup, deref_lst, deref_str, deref_bl, deref_non, deref_dK, deref_dT, deref_scr, deref_fn, isObj, bin_add, bin_addS, bin_addT, bin_addL, bin_sub, bin_mul, bin_mulL, bin_mulT, bin_fdiv, bin_mod, bin_pow, cmp_eq, cmp_ne, cmp_lt, cmp_le, cmp_gt, cmp_ge, cmp_isB, cmp_isnotB, cmp_is, cmp_isnot, cmp_inn, cmp_notin, eq_int, eq_str, eq_bl, tru_non, tru_bl, tru_int, tru_tup, tru_lst, tru_dK, ix_tup, ix_lst, ix_dK, ix_dT, bi_lenT, bi_lenL, bi_lenS, bi_int, bi_intB, bi_tupT, bi_tupL, bi_lisT, bi_lisL, bi_repr, bi_all, bi_any, bi_sum, bi_max, bi_min, bi_abs, bi_gcd, in_lst, in_tup, in_dK, in_dT, get_dKi, get_dKs, get_dTt, put_dKi, put_dKs, put_dTt, put_lst, key_int, key_str, keys_nil, keys_cons, slc_tup, slc_lst, slc_scr, end_t, end_f, ty_app, ty_pop, ty_ext, ty_getK, ty_getT, ok_int, ok_str, ok_non, isNop, and_assoc, at_0, at_1, at_2, at_3, wipeD]
    refine c_num (by omega) ?_
    refine .inr ⟨rfl, .inr ⟨by omega, .inr ⟨by omega, ?_, rfl⟩⟩⟩
    exact List.replicate_succ'.symm
  · rintro L h2 ⟨rfl, rfl⟩
    refine wl_nil.mpr ?_
    refine ⟨_, all_rep _, ?_⟩
    show Wr (finish _ _ _ _) Q
    exact wr_fin rfl take_self w
theorem c_told {k : Nat} {b t : List Nat} {i : Nat} {h : MH} {Q : D → MH → Prop} (ht : 0 < t.length) (w : Q (.int ((if i < b.length then b.getD i 0 else t.getD ((i - b.length) % t.length) 0 : Nat) : Int)) h) :
    Wc (callF prg (k + 1)) 0 [.tup [natsD b, natsD t], .int i] h Q := by
  have get : ∀ {l : List Nat} {i : Nat}, i < l.length → atD (l.map fun (n : Nat) => D.int n) (i : Int) = some (.int ((l.getD i 0 : Nat) : Int)) := fun {l i} h => by
    refine at_nat ?_
    rw [List.getElem?_map, List.getElem?_eq_getElem h, List.getD_eq_getElem?_getD, List.getElem?_eq_getElem h]; rfl
  refine wc_at (fn := f_told_entry) rfl rfl ?_
  simp [f_told_entry, ws_nil, ws_pass, ws_brk, ws_cnt, ws_ret0, ws_cons, nxt_rt, nxt_bk, nxt_ct, ws_asg, ws_put, ws_expr, ws_ret, ws_ite, we_var, we_int, we_str, we_bl, we_non, we_nopart, we_gint, we_gfn, we_bin, we_neg, we_cmp, we_chain, we_andd, we_orr, we_one, we_nott, we_ite, wl_nil, wl_cons, we_tup, we_lst, we_dct, we_dsp, we_call, we_callv, we_bi, we_isi, isiD, we_ix, we_slc, we_rev, we_me, we_frz, we_rng, wf_rt, wf_nx, wr_ok, wr_opt, wr_grd, wr_err, asgD, deref_int, deref_tup, deref_lst, deref_str, deref_bl, deref_non, deref_dK, deref_dT, deref_scr, deref_fn, isObj, bin_add, bin_addS, bin_addT, bin_addL, bin_sub, bin_mul, bin_mulL, bin_mulT, bin_fdiv, bin_mod, bin_pow, cmp_eq, cmp_ne, cmp_lt, cmp_le, cmp_gt, cmp_ge, cmp_isB, cmp_isnotB, cmp_is, cmp_isnot, cmp_inn, cmp_notin, eq_int, eq_str, eq_bl, tru_non, tru_bl, tru_int, tru_tup, tru_lst, tru_dK, ix_tup, ix_lst, ix_dK, ix_dT, bi_lenT, bi_lenL, bi_lenS, bi_int, bi_intB, bi_tupT, bi_tupL, bi_lisT, bi_lisL, bi_repr, bi_all, bi_any, bi_sum, bi_max, bi_min, bi_abs, bi_gcd, in_lst, in_tup, in_dK, in_dT, get_dKi, get_dKs, get_dTt, put_dKi, put_dKs, put_dTt, put_lst, key_int, key_str, keys_nil, keys_cons, slc_tup, slc_lst, slc_scr, end_t, end_f, ty_app, ty_pop, ty_ext, ty_getK, ty_getT, ok_int, ok_str, ok_non, isNop, and_assoc, at_0, at_1, at_2, at_3, natsD, szL]
  rw [nxt_nx]
  by_cases hi : i < b.length
  · have hi2 : ¬ b.length ≤ i := by omega
    rw [if_pos hi] at w
    simp [ws_nil, ws_pass, ws_brk, ws_cnt, ws_ret0, ws_cons, nxt_rt, nxt_bk, nxt_ct, ws_asg, ws_put, ws_expr, ws_ret, ws_ite, we_var, we_int, we_str, we_bl, we_non, we_nopart, we_gint, we_gfn, we_bin, we_neg, we_cmp, we_chain, we_andd, we_orr, we_one, we_nott, we_ite, wl_nil, wl_cons, we_tup, we_lst, we_dct, we_dsp, we_call, we_callv, we_bi, we_isi, isiD, we_ix, we_slc, we_rev, we_me, we_frz, we_rng, wf_rt, wf_nx, wr_ok, wr_opt, wr_grd, wr_err, asgD, deref_int, deref_tup, deref_lst, deref_str, deref_bl, deref_non, deref_dK, deref_dT, deref_scr, deref_fn, isObj, bin_add, bin_addS, bin_addT, bin_addL, bin_sub, bin_mul, bin_mulL, bin_mulT, bin_fdiv, bin_mod, bin_pow, cmp_eq, cmp_ne, cmp_lt, cmp_le, cmp_gt, cmp_ge, cmp_isB, cmp_isnotB, cmp_is, cmp_isnot, cmp_inn, cmp_notin, eq_int, eq_str, eq_bl, tru_non, tru_bl, tru_int, tru_tup, tru_lst, tru_dK, ix_tup, ix_lst, ix_dK, ix_dT, bi_lenT, bi_lenL, bi_lenS, bi_int, bi_intB, bi_tupT, bi_tupL, bi_lisT, bi_lisL, bi_repr, bi_all, bi_any, bi_sum, bi_max, bi_min, bi_abs, bi_gcd, in_lst, in_tup, in_dK, in_dT, get_dKi, get_dKs, get_dTt, put_dKi, put_dKs, put_dTt, put_lst, key_int, key_str, keys_nil, keys_cons, slc_tup, slc_lst, slc_scr, end_t, end_f, ty_app, ty_pop, ty_ext, ty_getK, ty_getT, ok_int, ok_str, ok_non, isNop, and_assoc, at_0, at_1, at_2, at_3, hi, hi2, get hi]
    refine wr_fin rfl take_self ?_
    simpa [hi] using w
  · have hi2 : b.length ≤ i := by omega
    have e : ((i : Int) - (b.length : Int)) = ((i - b.length : Nat) : Int) := by omega
    have e2 : ((i - b.length : Nat) : Int) % (t.length : Int) = (((i - b.length) % t.length : Nat) : Int) := by simp
    have g := get (Nat.mod_lt (i - b.length) ht)
    rw [if_neg hi] at w
    simp [ws_nil, ws_pass, ws_brk, ws_cnt, ws_ret0, ws_cons, nxt_rt, nxt_bk, nxt_ct, ws_asg, ws_put, ws_expr, ws_ret, ws_ite, we_var, we_int, we_str, we_bl, we_non, we_nopart, we_gint, we_gfn, we_bin, we_neg, we_cmp, we_chain, we_andd, we_orr, we_one, we_nott, we_ite, wl_nil, wl_cons, we_tup, we_lst, we_dct, we_dsp, we_call, we_callv, we_bi, we_isi, isiD, we_ix, we_slc, we_rev, we_me, we_frz, we_rng, wf_rt, wf_nx, wr_ok, wr_opt, wr_grd, wr_err, asgD, deref_int, deref_tup, deref_lst, deref_str, deref_bl, deref_non, deref_dK, deref_dT, deref_scr, deref_fn, isObj, bin_add, bin_addS, bin_addT, bin_addL, bin_sub, bin_mul, bin_mulL, bin_mulT, bin_fdiv, bin_mod, bin_pow, cmp_eq, cmp_ne, cmp_lt, cmp_le, cmp_gt, cmp_ge, cmp_isB, cmp_isnotB, cmp_is, cmp_isnot, cmp_inn, cmp_notin, eq_int, eq_str, eq_bl, tru_non, tru_bl, tru_int, tru_tup, tru_lst, tru_dK, ix_tup, ix_lst, ix_dK, ix_dT, bi_lenT, bi_lenL, bi_lenS, bi_int, bi_intB, bi_tupT, bi_tupL, bi_lisT, bi_lisL, bi_repr, bi_all, bi_any, bi_sum, bi_max, bi_min, bi_abs, bi_gcd, in_lst, in_tup, in_dK, in_dT, get_dKi, get_dKs, get_dTt, put_dKi, put_dKs, put_dTt, put_lst, key_int, key_str, keys_nil, keys_cons, slc_tup, slc_lst, slc_scr, end_t, end_f, ty_app, ty_pop, ty_ext, ty_getK, ty_getT, ok_int, ok_str, ok_non, isNop, and_assoc, at_0, at_1, at_2, at_3, hi, hi2, e, ht]
    exact ⟨_, g, wr_fin rfl take_self w⟩
theorem told_go : ¬ PySem.Str.ofString "told" = PySem.Str.ofString "go" := by decide +kernel
theorem go_told : ¬ PySem.Str.ofString "go" = PySem.Str.ofString "told" := by decide +kernel
theorem IsV.plain {v : D} (h : IsV v) : ∃ m, m < 10 ∧ PlN m v := by
  rcases h with rfl | rfl | rfl | rfl
  · exact ⟨1, by decide, .int (by decide)⟩
  · exact ⟨1, by decide, .int (by decide)⟩
  · exact ⟨3, by decide, .pair (.int (by decide)) (.int (by decide))⟩
  · exact ⟨1, by decide, .int (by decide)⟩
/-- a right state: many ways on, each below -/
def StOk (many below : Nat) : Sta → Prop
  | .told v => IsV v
  | .go l => l.length = many ∧ ∀ n ∈ l, n < below
theorem c_state {k many below : Nat} {s : Sta} {h : MH} {Q : D → MH → Prop} (hs : StOk many below s) (hm : many ≤ 9) (w : Q (.bl true) h) : Wc (callF prg (k + 3)) 5 [s.d, .int many, .int below] h Q := by
  refine wc_at (fn := f_is_state) rfl rfl ?_
  cases s with
  | told v =>
    obtain ⟨m, hm2, pv⟩ := IsV.plain hs
    simp [f_is_state, ws_nil, ws_pass, ws_brk, ws_cnt, ws_ret0, ws_cons, nxt_rt, nxt_bk, nxt_ct, ws_asg, ws_put, ws_expr, ws_ret, ws_ite, we_var, we_int, we_str, we_bl, we_non, we_nopart, we_gint, we_gfn, we_bin, we_neg, we_cmp, we_chain, we_andd, we_orr, we_one, we_nott, we_ite, wl_nil, wl_cons, we_tup, we_lst, we_dct, we_dsp, we_call, we_callv, we_bi, we_isi, isiD, we_ix, we_slc, we_rev, we_me, we_frz, we_rng, wf_rt, wf_nx, wr_ok, wr_opt, wr_grd, wr_err, asgD, deref_int, deref_tup, deref_lst, deref_str, deref_bl, deref_non, deref_dK, deref_dT, deref_scr, deref_fn, isObj, bin_add, bin_addS, bin_addT, bin_addL, bin_sub, bin_mul, bin_mulL, bin_mulT, bin_fdiv, bin_mod, bin_pow, cmp_eq, cmp_ne, cmp_lt, cmp_le, cmp_gt, cmp_ge, cmp_isB, cmp_isnotB, cmp_is, cmp_isnot, cmp_inn, cmp_notin, eq_int, eq_str, eq_bl, tru_non, tru_bl, tru_int, tru_tup, tru_lst, tru_dK, ix_tup, ix_lst, ix_dK, ix_dT, bi_lenT, bi_lenL, bi_lenS, bi_int, bi_intB, bi_tupT, bi_tupL, bi_lisT, bi_lisL, bi_repr, bi_all, bi_any, bi_sum, bi_max, bi_min, bi_abs, bi_gcd, in_lst, in_tup, in_dK, in_dT, get_dKi, get_dKs, get_dTt, put_dKi, put_dKs, put_dTt, put_lst, key_int, key_str, keys_nil, keys_cons, slc_tup, slc_lst, slc_scr, end_t, end_f, ty_app, ty_pop, ty_ext, ty_getK, ty_getT, ok_int, ok_str, ok_non, isNop, and_assoc, at_0, at_1, at_2, at_3, Sta.d]
    rw [nxt_nx]
    simp [ws_nil, ws_pass, ws_brk, ws_cnt, ws_ret0, ws_cons, nxt_rt, nxt_bk, nxt_ct, ws_asg, ws_put, ws_expr, ws_ret, ws_ite, we_var, we_int, we_str, we_bl, we_non, we_nopart, we_gint, we_gfn, we_bin, we_neg, we_cmp, we_chain, we_andd, we_orr, we_one, we_nott, we_ite, wl_nil, wl_cons, we_tup, we_lst, we_dct, we_dsp, we_call, we_callv, we_bi, we_isi, isiD, we_ix, we_slc, we_rev, we_me, we_frz, we_rng, wf_rt, wf_nx, wr_ok, wr_opt, wr_grd, wr_err, asgD, deref_int, deref_tup, deref_lst, deref_str, deref_bl, deref_non, deref_dK, deref_dT, deref_scr, deref_fn, isObj, bin_add, bin_addS, bin_addT, bin_addL, bin_sub, bin_mul, bin_mulL, bin_mulT, bin_fdiv, bin_mod, bin_pow, cmp_eq, cmp_ne, cmp_lt, cmp_le, cmp_gt, cmp_ge, cmp_isB, cmp_isnotB, cmp_is, cmp_isnot, cmp_inn, cmp_notin, eq_int, eq_str, eq_bl, tru_non, tru_bl, tru_int, tru_tup, tru_lst, tru_dK, ix_tup, ix_lst, ix_dK, ix_dT, bi_lenT, bi_lenL, bi_lenS, bi_int, bi_intB, bi_tupT, bi_tupL, bi_lisT, bi_lisL, bi_repr, bi_all, bi_any, bi_sum, bi_max, bi_min, bi_abs, bi_gcd, in_lst, in_tup, in_dK, in_dT, get_dKi, get_dKs, get_dTt, put_dKi, put_dKs, put_dTt, put_lst, key_int, key_str, keys_nil, keys_cons, slc_tup, slc_lst, slc_scr, end_t, end_f, ty_app, ty_pop, ty_ext, ty_getK, ty_getT, ok_int, ok_str, ok_non, isNop, and_assoc, at_0, at_1, at_2, at_3]
    refine c_plain pv (by omega) ?_
    exact wr_fin rfl take_self w
  | go l =>
    obtain ⟨e1, e2⟩ := hs
    simp [f_is_state, ws_nil, ws_pass, ws_brk, ws_cnt, ws_ret0, ws_cons, nxt_rt, nxt_bk, nxt_ct, ws_asg, ws_put, ws_expr, ws_ret, ws_ite, we_var, we_int, we_str, we_bl, we_non, we_nopart, we_gint, we_gfn, we_bin, we_neg, we_cmp, we_chain, we_andd, we_orr, we_one, we_nott, we_ite, wl_nil, wl_cons, we_tup, we_lst, we_dct, we_dsp, we_call, we_callv, we_bi, we_isi, isiD, we_ix, we_slc, we_rev, we_me, we_frz, we_rng, wf_rt, wf_nx, wr_ok, wr_opt, wr_grd, wr_err, asgD, deref_int, deref_tup, deref_lst, deref_str, deref_bl, deref_non, deref_dK, deref_dT, deref_scr, deref_fn, isObj, bin_add, bin_addS, bin_addT, bin_addL, bin_sub, bin_mul, bin_mulL, bin_mulT, bin_fdiv, bin_mod, bin_pow, cmp_eq, cmp_ne, cmp_lt, cmp_le, cmp_gt, cmp_ge, cmp_isB, cmp_isnotB, cmp_is, cmp_isnot, cmp_inn, cmp_notin, eq_int, eq_str, eq_bl, tru_non, tru_bl, tru_int, tru_tup, tru_lst, tru_dK, ix_tup, ix_lst, ix_dK, ix_dT, bi_lenT, bi_lenL, bi_lenS, bi_int, bi_intB, bi_tupT, bi_tupL, bi_lisT, bi_lisL, bi_repr, bi_all, bi_any, bi_sum, bi_max, bi_min, bi_abs, bi_gcd, in_lst, in_tup, in_dK, in_dT, get_dKi, get_dKs, get_dTt, put_dKi, put_dKs, put_dTt, put_lst, key_int, key_str, keys_nil, keys_cons, slc_tup, slc_lst, slc_scr, end_t, end_f, ty_app, ty_pop, ty_ext, ty_getK, ty_getT, ok_int, ok_str, ok_non, isNop, and_assoc, at_0, at_1, at_2, at_3, Sta.d, natsD, go_told]
    rw [nxt_nx]
    simp [ws_nil, ws_pass, ws_brk, ws_cnt, ws_ret0, ws_cons, nxt_rt, nxt_bk, nxt_ct, ws_asg, ws_put, ws_expr, ws_ret, ws_ite, we_var, we_int, we_str, we_bl, we_non, we_nopart, we_gint, we_gfn, we_bin, we_neg, we_cmp, we_chain, we_andd, we_orr, we_one, we_nott, we_ite, wl_nil, wl_cons, we_tup, we_lst, we_dct, we_dsp, we_call, we_callv, we_bi, we_isi, isiD, we_ix, we_slc, we_rev, we_me, we_frz, we_rng, wf_rt, wf_nx, wr_ok, wr_opt, wr_grd, wr_err, asgD, deref_int, deref_tup, deref_lst, deref_str, deref_bl, deref_non, deref_dK, deref_dT, deref_scr, deref_fn, isObj, bin_add, bin_addS, bin_addT, bin_addL, bin_sub, bin_mul, bin_mulL, bin_mulT, bin_fdiv, bin_mod, bin_pow, cmp_eq, cmp_ne, cmp_lt, cmp_le, cmp_gt, cmp_ge, cmp_isB, cmp_isnotB, cmp_is, cmp_isnot, cmp_inn, cmp_notin, eq_int, eq_str, eq_bl, tru_non, tru_bl, tru_int, tru_tup, tru_lst, tru_dK, ix_tup, ix_lst, ix_dK, ix_dT, bi_lenT, bi_lenL, bi_lenS, bi_int, bi_intB, bi_tupT, bi_tupL, bi_lisT, bi_lisL, bi_repr, bi_all, bi_any, bi_sum, bi_max, bi_min, bi_abs, bi_gcd, in_lst, in_tup, in_dK, in_dT, get_dKi, get_dKs, get_dTt, put_dKi, put_dKs, put_dTt, put_lst, key_int, key_str, keys_nil, keys_cons, slc_tup, slc_lst, slc_scr, end_t, end_f, ty_app, ty_pop, ty_ext, ty_getK, ty_getT, ok_int, ok_str, ok_non, isNop, and_assoc, at_0, at_1, at_2, at_3, go_told]
    rw [nxt_nx]
    simp [ws_nil, ws_pass, ws_brk, ws_cnt, ws_ret0, ws_cons, nxt_rt, nxt_bk, nxt_ct, ws_asg, ws_put, ws_expr, ws_ret, ws_ite, we_var, we_int, we_str, we_bl, we_non, we_nopart, we_gint, we_gfn, we_bin, we_neg, we_cmp, we_chain, we_andd, we_orr, we_one, we_nott, we_ite, wl_nil, wl_cons, we_tup, we_lst, we_dct, we_dsp, we_call, we_callv, we_bi, we_isi, isiD, we_ix, we_slc, we_rev, we_me, we_frz, we_rng, wf_rt, wf_nx, wr_ok, wr_opt, wr_grd, wr_err, asgD, deref_int, deref_tup, deref_lst, deref_str, deref_bl, deref_non, deref_dK, deref_dT, deref_scr, deref_fn, isObj, bin_add, bin_addS, bin_addT, bin_addL, bin_sub, bin_mul, bin_mulL, bin_mulT, bin_fdiv, bin_mod, bin_pow, cmp_eq, cmp_ne, cmp_lt, cmp_le, cmp_gt, cmp_ge, cmp_isB, cmp_isnotB, cmp_is, cmp_isnot, cmp_inn, cmp_notin, eq_int, eq_str, eq_bl, tru_non, tru_bl, tru_int, tru_tup, tru_lst, tru_dK, ix_tup, ix_lst, ix_dK, ix_dT, bi_lenT, bi_lenL, bi_lenS, bi_int, bi_intB, bi_tupT, bi_tupL, bi_lisT, bi_lisL, bi_repr, bi_all, bi_any, bi_sum, bi_max, bi_min, bi_abs, bi_gcd, in_lst, in_tup, in_dK, in_dT, get_dKi, get_dKs, get_dTt, put_dKi, put_dKs, put_dTt, put_lst, key_int, key_str, keys_nil, keys_cons, slc_tup, slc_lst, slc_scr, end_t, end_f, ty_app, ty_pop, ty_ext, ty_getK, ty_getT, ok_int, ok_str, ok_non, isNop, and_assoc, at_0, at_1, at_2, at_3, e1]
    rw [nxt_nx]
    simp only [ws_cons, ws_ret, we_bi, wl_cons]
    refine we_lcI (I := fun j acc h2 => acc = List.replicate j (.bl true) ∧ h2 = h) ?_
    rw [we_ix, we_var]
    refine ⟨_, rfl, ?_⟩
    rw [we_int]
    refine ⟨_, at_1, ?_⟩
    refine ⟨l.map (fun (n : Nat) => D.int n), rfl, by rw [List.length_map]; unfold szL; omega, ⟨rfl, rfl⟩, ?_, ?_⟩
    · rintro j x acc h2 hx ⟨rfl, rfl⟩
      obtain ⟨n, rfl, hn⟩ := nat_at hx
      have a1 := e2 n (List.mem_of_getElem? hn)
      refine ⟨_, rfl, ?_⟩
      simp [ws_nil, ws_pass, ws_brk, ws_cnt, ws_ret0, ws_cons, nxt_rt, nxt_bk, nxt_ct, ws_asg, ws_put, ws_expr, ws_ret, ws_ite, we_var, we_int, we_str, we_bl, we_non, we_nopart, we_gint, we_gfn, we_bin, we_neg, we_cmp, we_chain, we_andd, we_orr, we_one, we_nott, we_ite, wl_nil, wl_cons, we_tup, we_lst, we_dct, we_dsp, we_call, we_callv, we_bi, we_isi, isiD, we_ix, we_slc, we_rev, we_me, we_frz, we_rng, wf_rt, wf_nx, wr_ok, wr_opt, wr_grd, wr_err, asgD, deref_int, deref_tup, deref_lst, deref_str, deref_bl, deref_non, deref_dK, deref_dT, deref_scr, deref_fn, isObj, bin_add, bin_addS, bin_addT, bin_addL, bin_sub, bin_mul, bin_mulL, bin_mulT, bin_fdiv, bin_mod, bin_pow, cmp_eq, cmp_ne, cmp_lt, cmp_le, cmp_gt, cmp_ge, cmp_isB, cmp_isnotB, cmp_is, cmp_isnot, cmp_inn, cmp_notin, eq_int, eq_str, eq_bl, tru_non, tru_bl, tru_int, tru_tup, tru_lst, tru_dK, ix_tup, ix_lst, ix_dK, ix_dT, bi_lenT, bi_lenL, bi_lenS, bi_int, bi_intB, bi_tupT, bi_tupL, bi_lisT, bi_lisL, bi_repr, bi_all, bi_any, bi_sum, bi_max, bi_min, bi_abs, bi_gcd, in_lst, in_tup, in_dK, in_dT, get_dKi, get_dKs, get_dTt, put_dKi, put_dKs, put_dTt, put_lst, key_int, key_str, keys_nil, keys_cons, slc_tup, slc_lst, slc_scr, end_t, end_f, ty_app, ty_pop, ty_ext, ty_getK, ty_getT, ok_int, ok_str, ok_non, isNop, and_assoc, at_0, at_1, at_2, at_3, wipeD]
      refine c_num (by omega) ?_
      simp [ws_nil, ws_pass, ws_brk, ws_cnt, ws_ret0, ws_cons, nxt_rt, nxt_bk, nxt_ct, ws_asg, ws_put, ws_expr, ws_ret, ws_ite, we_var, we_int, we_str, we_bl, we_non, we_nopart, we_gint, we_gfn, we_bin, we_neg, we_cmp, we_chain, we_andd, we_orr, we_one, we_nott, we_ite, wl_nil, wl_cons, we_tup, we_lst, we_dct, we_dsp, we_call, we_callv, we_bi, we_isi, isiD, we_ix, we_slc, we_rev, we_me, we_frz, we_rng, wf_rt, wf_nx, wr_ok, wr_opt, wr_grd, wr_err, asgD, deref_int, deref_tup, deref_lst, deref_str, deref_bl, deref_non, deref_dK, deref_dT, deref_scr, deref_fn, isObj, bin_add, bin_addS, bin_addT, bin_addL, bin_sub, bin_mul, bin_mulL, bin_mulT, bin_fdiv, bin_mod, bin_pow, cmp_eq, cmp_ne, cmp_lt, cmp_le, cmp_gt, cmp_ge, cmp_isB, cmp_isnotB, cmp_is, cmp_isnot, cmp_inn, cmp_notin, eq_int, eq_str, eq_bl, tru_non, tru_bl, tru_int, tru_tup, tru_lst, tru_dK, ix_tup, ix_lst, ix_dK, ix_dT, bi_lenT, bi_lenL, bi_lenS, bi_int, bi_intB, bi_tupT, bi_tupL, bi_lisT, bi_lisL, bi_repr, bi_all, bi_any, bi_sum, bi_max, bi_min, bi_abs, bi_gcd, in_lst, in_tup, in_dK, in_dT, get_dKi, get_dKs, get_dTt, put_dKi, put_dKs, put_dTt, put_lst, key_int, key_str, keys_nil, keys_cons, slc_tup, slc_lst, slc_scr, end_t, end_f, ty_app, ty_pop, ty_ext, ty_getK, ty_getT, ok_int, ok_str, ok_non, isNop, and_assoc, at_0, at_1, at_2, at_3, a1]
      exact .inr List.replicate_succ'.symm
    · rintro L h2 ⟨rfl, rfl⟩
      refine wl_nil.mpr ?_
      refine ⟨_, all_rep _, ?_⟩
      show Wr (finish _ _ _ _) Q
      exact wr_fin rfl take_self w
end Lw
/-! k59: levels and machines. -/
namespace Lw
open Mi
theorem dat_told {dep : Nat} : Dat dep 10 (.str "told") := Dat.str (by decide +kernel) (by decide +kernel)
theorem dat_go {dep : Nat} : Dat dep 10 (.str "go") := Dat.str (by decide +kernel) (by decide +kernel)
theorem IsV.dat {v : D} (h : IsV v) : Dat 1 40 v := by
  rcases h with rfl | rfl | rfl | rfl
  · exact (Dat.nat (dep := 0) (i := 0) (m := 9) (by decide) (by decide)).mono (by decide) (by decide)
  · exact (Dat.nat (dep := 0) (i := 1) (m := 9) (by decide) (by decide)).mono (by decide) (by decide)
  · exact (Dat.tup (dep := 0) (Dats.cons (Dat.nat (i := 1) (m := 9) (by decide) (by decide)) (Dats.cons (Dat.nat (i := 2) (m := 9) (by decide) (by decide)) .nil))).mono (by decide) (by decide)
  · exact (Dat.nat (dep := 0) (i := 7) (m := 9) (by decide) (by decide)).mono (by decide) (by decide)
theorem dat_nats {l : List Nat} {m : Nat} (h : ∀ n ∈ l, n ≤ m) (hm : m < 1000000) : Dat 1 ((m + 4) * l.length + 5) (natsD l) := by
  have := Dats.all (dep := 0) (s := m + 2) (l := l.map fun (n : Nat) => D.int n) fun d hd => by
    obtain ⟨n, hn, rfl⟩ := List.mem_map.mp hd
    exact Dat.nat (h n hn) hm
  rw [List.length_map] at this
  exact Dat.tup this
theorem Sta.dat {many below : Nat} {s : Sta} (h : StOk many below s) (h1 : many ≤ 9) (h2 : below ≤ 100) : Dat 2 2000 s.d := by
  cases s with
  | told v => exact (Dat.tup (Dats.cons dat_told (Dats.cons (IsV.dat h) .nil))).mono (by decide) (by decide)
  | go l =>
    obtain ⟨e1, e2⟩ := h
    have d := dat_nats (l := l) (m := 100) (fun n hn => by have := e2 n hn; omega) (by decide)
    exact (Dat.tup (Dats.cons dat_go (Dats.cons d .nil))).mono (by decide) (by rw [e1]; omega)
/-- a right machine -/
structure WfM (sizes : List Nat) (levs : List (List Sta)) : Prop where
  s1 : 0 < sizes.length
  s2 : sizes.length ≤ 3
  s3 : ∀ n ∈ sizes, 2 ≤ n ∧ n ≤ 3
  l1 : 0 < levs.length
  l2 : levs.length ≤ 100
  first : ∃ s, levs[0]? = some [s]
  lv : ∀ t lv, levs[t]? = some lv → 0 < lv.length ∧ lv.length ≤ 10 ∧ ∀ s ∈ lv, StOk (sizes.getD (t % sizes.length) 0) ((levs.getD (t + 1) []).length) s
  last : ∀ s ∈ levs.getD (levs.length - 1) [], ∃ v, s = .told v
theorem lev_at {levs : List (List Sta)} {t : Nat} {lv : List Sta} (h : levs[t]? = some lv) : atD (levs.map levD) (t : Int) = some (levD lv) := by
  refine at_nat ?_
  rw [List.getElem?_map, h]; rfl
theorem c_level {k t : Nat} {sizes : List Nat} {levs : List (List Sta)} {lv : List Sta} {h : MH} {Q : D → MH → Prop} (wf : WfM sizes levs) (hl : levs[t]? = some lv) (w : Q (.bl true) h) : Wc (callF prg (k + 4)) 6 [natsD sizes, levsD levs, .int t] h Q := by
  have ht : t < levs.length := (List.getElem?_eq_some_iff.mp hl).1
  have a0 := lev_at hl
  refine wc_at (fn := f_is_level) rfl rfl ?_
  simp [f_is_level, ws_nil, ws_pass, ws_brk, ws_cnt, ws_ret0, ws_cons, nxt_rt, nxt_bk, nxt_ct, ws_asg, ws_put, ws_expr, ws_ret, ws_ite, we_var, we_int, we_str, we_bl, we_non, we_nopart, we_gint, we_gfn, we_bin, we_neg, we_cmp, we_chain, we_andd, we_orr, we_one, we_nott, we_ite, wl_nil, wl_cons, we_tup, we_lst, we_dct, we_dsp, we_call, we_callv, we_bi, we_isi, isiD, we_ix, we_slc, we_rev, we_me, we_frz, we_rng, wf_rt, wf_nx, wr_ok, wr_opt, wr_grd, wr_err, asgD, deref_int, deref_tup, deref_lst, deref_str, deref_bl, deref_non, deref_dK, deref_dT, deref_scr, deref_fn, isObj, bin_add, bin_addS, bin_addT, bin_addL, bin_sub, bin_mul, bin_mulL, bin_mulT, bin_fdiv, bin_mod, bin_pow, cmp_eq, cmp_ne, cmp_lt, cmp_le, cmp_gt, cmp_ge, cmp_isB, cmp_isnotB, cmp_is, cmp_isnot, cmp_inn, cmp_notin, eq_int, eq_str, eq_bl, tru_non, tru_bl, tru_int, tru_tup, tru_lst, tru_dK, ix_tup, ix_lst, ix_dK, ix_dT, bi_lenT, bi_lenL, bi_lenS, bi_int, bi_intB, bi_tupT, bi_tupL, bi_lisT, bi_lisL, bi_repr, bi_all, bi_any, bi_sum, bi_max, bi_min, bi_abs, bi_gcd, in_lst, in_tup, in_dK, in_dT, get_dKi, get_dKs, get_dTt, put_dKi, put_dKs, put_dTt, put_lst, key_int, key_str, keys_nil, keys_cons, slc_tup, slc_lst, slc_scr, end_t, end_f, ty_app, ty_pop, ty_ext, ty_getK, ty_getT, ok_int, ok_str, ok_non, isNop, and_assoc, at_0, at_1, at_2, at_3, levsD, a0, szL]
  rw [nxt_nx]
  obtain ⟨v1, v2, v3⟩ := wf.lv t lv hl
  have hb : (levs.getD (t + 1) []).length ≤ 10 := by
    by_cases h1 : t + 1 < levs.length
    · rw [List.getD_eq_getElem?_getD, List.getElem?_eq_getElem h1]
      exact (wf.lv (t + 1) _ (List.getElem?_eq_getElem h1)).2.1
    · rw [List.getD_eq_getElem?_getD, List.getElem?_eq_none (by omega)]; simp
  have ms : t % sizes.length < sizes.length := Nat.mod_lt t wf.s1
  have sz : sizes.getD (t % sizes.length) 0 ≤ 9 := by
    rw [List.getD_eq_getElem?_getD, List.getElem?_eq_getElem ms]
    have := (wf.s3 _ (List.getElem_mem ms)).2
    simp; omega
  have rest : Ws (callF prg (k + 3)) (match f_is_level.body with
      | .cons _ (.cons _ r) => r
      | _ => .nil) [some (natsD sizes), some (D.tup (levs.map levD)), some (.int t), some (levD lv), some (.int (levs.getD (t + 1) []).length), none, none] h (Mi.Wf false h.length Q) := by
    have dl : Dats 2 20020 (lv.map Sta.d) := (Dats.all (dep := 2) (s := 2000) fun d hd => by
      obtain ⟨s, hs, rfl⟩ := List.mem_map.mp hd
      exact Sta.dat (v3 s hs) sz (by omega)).mono (Nat.le_refl _) (by rw [List.length_map]; omega)
    have ne : (lv.map Sta.d).isEmpty = false := by
      cases lv with
      | nil => simp at v1
      | cons _ _ => rfl
    have e1 := Dats.empty dl (by decide)
    rw [ne] at e1
    show Ws _ (.cons _ _) _ _ _
    rw [ws_cons]
    simp [ws_nil, ws_pass, ws_brk, ws_cnt, ws_ret0, ws_cons, nxt_rt, nxt_bk, nxt_ct, ws_asg, ws_put, ws_expr, ws_ret, ws_ite, we_var, we_int, we_str, we_bl, we_non, we_nopart, we_gint, we_gfn, we_bin, we_neg, we_cmp, we_chain, we_andd, we_orr, we_one, we_nott, we_ite, wl_nil, wl_cons, we_tup, we_lst, we_dct, we_dsp, we_call, we_callv, we_bi, we_isi, isiD, we_ix, we_slc, we_rev, we_me, we_frz, we_rng, wf_rt, wf_nx, wr_ok, wr_opt, wr_grd, wr_err, asgD, deref_int, deref_tup, deref_lst, deref_str, deref_bl, deref_non, deref_dK, deref_dT, deref_scr, deref_fn, isObj, bin_add, bin_addS, bin_addT, bin_addL, bin_sub, bin_mul, bin_mulL, bin_mulT, bin_fdiv, bin_mod, bin_pow, cmp_eq, cmp_ne, cmp_lt, cmp_le, cmp_gt, cmp_ge, cmp_isB, cmp_isnotB, cmp_is, cmp_isnot, cmp_inn, cmp_notin, eq_int, eq_str, eq_bl, tru_non, tru_bl, tru_int, tru_tup, tru_lst, tru_dK, ix_tup, ix_lst, ix_dK, ix_dT, bi_lenT, bi_lenL, bi_lenS, bi_int, bi_intB, bi_tupT, bi_tupL, bi_lisT, bi_lisL, bi_repr, bi_all, bi_any, bi_sum, bi_max, bi_min, bi_abs, bi_gcd, in_lst, in_tup, in_dK, in_dT, get_dKi, get_dKs, get_dTt, put_dKi, put_dKs, put_dTt, put_lst, key_int, key_str, keys_nil, keys_cons, slc_tup, slc_lst, slc_scr, end_t, end_f, ty_app, ty_pop, ty_ext, ty_getK, ty_getT, ok_int, ok_str, ok_non, isNop, and_assoc, at_0, at_1, at_2, at_3, levD, szL, e1]
    rw [nxt_nx]
    have dn : Dats 0 1000 (sizes.map fun (n : Nat) => D.int n) := (Dats.all (dep := 0) (s := 12) fun d hd => by
      obtain ⟨n, hn, rfl⟩ := List.mem_map.mp hd
      have := wf.s3 n hn
      exact Dat.nat (m := 10) (by omega) (by decide)).mono (Nat.le_refl _) (by rw [List.length_map]; have := wf.s2; omega)
    have e3 := Dats.empty dn (by decide)
    have ne2 : (sizes.map fun (n : Nat) => D.int n).isEmpty = false := by
      have := wf.s1
      cases sizes with
      | nil => simp at this
      | cons _ _ => rfl
    rw [ne2] at e3
    have as : atD (sizes.map fun (n : Nat) => D.int n) ((t % sizes.length : Nat) : Int) = some (.int ((sizes.getD (t % sizes.length) 0 : Nat) : Int)) := by
      refine at_nat ?_
      rw [List.getElem?_map, List.getElem?_eq_getElem ms, List.getD_eq_getElem?_getD, List.getElem?_eq_getElem ms]; rfl
    simp [ws_nil, ws_pass, ws_brk, ws_cnt, ws_ret0, ws_cons, nxt_rt, nxt_bk, nxt_ct, ws_asg, ws_put, ws_expr, ws_ret, ws_ite, we_var, we_int, we_str, we_bl, we_non, we_nopart, we_gint, we_gfn, we_bin, we_neg, we_cmp, we_chain, we_andd, we_orr, we_one, we_nott, we_ite, wl_nil, wl_cons, we_tup, we_lst, we_dct, we_dsp, we_call, we_callv, we_bi, we_isi, isiD, we_ix, we_slc, we_rev, we_me, we_frz, we_rng, wf_rt, wf_nx, wr_ok, wr_opt, wr_grd, wr_err, asgD, deref_int, deref_tup, deref_lst, deref_str, deref_bl, deref_non, deref_dK, deref_dT, deref_scr, deref_fn, isObj, bin_add, bin_addS, bin_addT, bin_addL, bin_sub, bin_mul, bin_mulL, bin_mulT, bin_fdiv, bin_mod, bin_pow, cmp_eq, cmp_ne, cmp_lt, cmp_le, cmp_gt, cmp_ge, cmp_isB, cmp_isnotB, cmp_is, cmp_isnot, cmp_inn, cmp_notin, eq_int, eq_str, eq_bl, tru_non, tru_bl, tru_int, tru_tup, tru_lst, tru_dK, ix_tup, ix_lst, ix_dK, ix_dT, bi_lenT, bi_lenL, bi_lenS, bi_int, bi_intB, bi_tupT, bi_tupL, bi_lisT, bi_lisL, bi_repr, bi_all, bi_any, bi_sum, bi_max, bi_min, bi_abs, bi_gcd, in_lst, in_tup, in_dK, in_dT, get_dKi, get_dKs, get_dTt, put_dKi, put_dKs, put_dTt, put_lst, key_int, key_str, keys_nil, keys_cons, slc_tup, slc_lst, slc_scr, end_t, end_f, ty_app, ty_pop, ty_ext, ty_getK, ty_getT, ok_int, ok_str, ok_non, isNop, and_assoc, at_0, at_1, at_2, at_3, natsD, e3]
    refine c_place (L := 0) (sizes := sizes) wf.s1 (by have := wf.s2; omega) ?_
    refine ⟨_, at_1, ?_⟩
    refine ⟨_, as, ?_⟩
    rw [nxt_nx]
    simp only [ws_cons, ws_ret, we_bi, wl_cons]
    refine we_lcI (I := fun j acc h2 => acc = List.replicate j (.bl true) ∧ h2 = h) ?_
    rw [we_var]
    refine ⟨_, rfl, lv.map Sta.d, rfl, by rw [List.length_map]; unfold szL; omega, ⟨rfl, rfl⟩, ?_, ?_⟩
    · rintro j x acc h2 hx ⟨rfl, rfl⟩
      rw [List.getElem?_map] at hx
      cases hs : lv[j]? with
      | none => rw [hs] at hx; cases hx
      | some s =>
        rw [hs] at hx
        cases hx
        refine ⟨_, rfl, ?_⟩
        simp [ws_nil, ws_pass, ws_brk, ws_cnt, ws_ret0, ws_cons, nxt_rt, nxt_bk, nxt_ct, ws_asg, ws_put, ws_expr, ws_ret, ws_ite, we_var, we_int, we_str, we_bl, we_non, we_nopart, we_gint, we_gfn, we_bin, we_neg, we_cmp, we_chain, we_andd, we_orr, we_one, we_nott, we_ite, wl_nil, wl_cons, we_tup, we_lst, we_dct, we_dsp, we_call, we_callv, we_bi, we_isi, isiD, we_ix, we_slc, we_rev, we_me, we_frz, we_rng, wf_rt, wf_nx, wr_ok, wr_opt, wr_grd, wr_err, asgD, deref_int, deref_tup, deref_lst, deref_str, deref_bl, deref_non, deref_dK, deref_dT, deref_scr, deref_fn, isObj, bin_add, bin_addS, bin_addT, bin_addL, bin_sub, bin_mul, bin_mulL, bin_mulT, bin_fdiv, bin_mod, bin_pow, cmp_eq, cmp_ne, cmp_lt, cmp_le, cmp_gt, cmp_ge, cmp_isB, cmp_isnotB, cmp_is, cmp_isnot, cmp_inn, cmp_notin, eq_int, eq_str, eq_bl, tru_non, tru_bl, tru_int, tru_tup, tru_lst, tru_dK, ix_tup, ix_lst, ix_dK, ix_dT, bi_lenT, bi_lenL, bi_lenS, bi_int, bi_intB, bi_tupT, bi_tupL, bi_lisT, bi_lisL, bi_repr, bi_all, bi_any, bi_sum, bi_max, bi_min, bi_abs, bi_gcd, in_lst, in_tup, in_dK, in_dT, get_dKi, get_dKs, get_dTt, put_dKi, put_dKs, put_dTt, put_lst, key_int, key_str, keys_nil, keys_cons, slc_tup, slc_lst, slc_scr, end_t, end_f, ty_app, ty_pop, ty_ext, ty_getK, ty_getT, ok_int, ok_str, ok_non, isNop, and_assoc, at_0, at_1, at_2, at_3, wipeD]
        refine c_state (many := sizes.getD (t % sizes.length) 0) (below := (levs.getD (t + 1) []).length) (v3 s (List.mem_of_getElem? hs)) sz ?_
        exact ⟨List.replicate_succ'.symm, rfl⟩
    · rintro L h2 ⟨rfl, rfl⟩
      refine wl_nil.mpr ?_
      refine ⟨_, all_rep _, ?_⟩
      show Wr (finish _ _ _ _) Q
      exact wr_fin rfl take_self w
  rw [ws_cons]
  by_cases h1 : t + 1 < levs.length
  · have a1 := lev_at (List.getElem?_eq_getElem h1)
    have e1 : ((t + 1 : Nat) : Int) = (t : Int) + 1 := by omega
    have e2 : (levs.getD (t + 1) []).length = levs[t + 1].length := by rw [List.getD_eq_getElem?_getD, List.getElem?_eq_getElem h1]; rfl
    have h2 : (t : Int) + 1 < levs.length := by omega
    have h3 : ¬ (levs.length : Int) ≤ (t : Int) + 1 := by omega
    rw [e1] at a1
    rw [e2] at rest
    simp [ws_nil, ws_pass, ws_brk, ws_cnt, ws_ret0, ws_cons, nxt_rt, nxt_bk, nxt_ct, ws_asg, ws_put, ws_expr, ws_ret, ws_ite, we_var, we_int, we_str, we_bl, we_non, we_nopart, we_gint, we_gfn, we_bin, we_neg, we_cmp, we_chain, we_andd, we_orr, we_one, we_nott, we_ite, wl_nil, wl_cons, we_tup, we_lst, we_dct, we_dsp, we_call, we_callv, we_bi, we_isi, isiD, we_ix, we_slc, we_rev, we_me, we_frz, we_rng, wf_rt, wf_nx, wr_ok, wr_opt, wr_grd, wr_err, asgD, deref_int, deref_tup, deref_lst, deref_str, deref_bl, deref_non, deref_dK, deref_dT, deref_scr, deref_fn, isObj, bin_add, bin_addS, bin_addT, bin_addL, bin_sub, bin_mul, bin_mulL, bin_mulT, bin_fdiv, bin_mod, bin_pow, cmp_eq, cmp_ne, cmp_lt, cmp_le, cmp_gt, cmp_ge, cmp_isB, cmp_isnotB, cmp_is, cmp_isnot, cmp_inn, cmp_notin, eq_int, eq_str, eq_bl, tru_non, tru_bl, tru_int, tru_tup, tru_lst, tru_dK, ix_tup, ix_lst, ix_dK, ix_dT, bi_lenT, bi_lenL, bi_lenS, bi_int, bi_intB, bi_tupT, bi_tupL, bi_lisT, bi_lisL, bi_repr, bi_all, bi_any, bi_sum, bi_max, bi_min, bi_abs, bi_gcd, in_lst, in_tup, in_dK, in_dT, get_dKi, get_dKs, get_dTt, put_dKi, put_dKs, put_dTt, put_lst, key_int, key_str, keys_nil, keys_cons, slc_tup, slc_lst, slc_scr, end_t, end_f, ty_app, ty_pop, ty_ext, ty_getK, ty_getT, ok_int, ok_str, ok_non, isNop, and_assoc, at_0, at_1, at_2, at_3, h2, h3, a1, levD]
    rw [nxt_nx, ws_nil, nxt_nx]
    exact rest
  · have e2 : (levs.getD (t + 1) []).length = 0 := by rw [List.getD_eq_getElem?_getD, List.getElem?_eq_none (by omega)]; rfl
    have h2 : ¬ (t : Int) + 1 < levs.length := by omega
    have h3 : (levs.length : Int) ≤ (t : Int) + 1 := by omega
    rw [e2] at rest
    simp [ws_nil, ws_pass, ws_brk, ws_cnt, ws_ret0, ws_cons, nxt_rt, nxt_bk, nxt_ct, ws_asg, ws_put, ws_expr, ws_ret, ws_ite, we_var, we_int, we_str, we_bl, we_non, we_nopart, we_gint, we_gfn, we_bin, we_neg, we_cmp, we_chain, we_andd, we_orr, we_one, we_nott, we_ite, wl_nil, wl_cons, we_tup, we_lst, we_dct, we_dsp, we_call, we_callv, we_bi, we_isi, isiD, we_ix, we_slc, we_rev, we_me, we_frz, we_rng, wf_rt, wf_nx, wr_ok, wr_opt, wr_grd, wr_err, asgD, deref_int, deref_tup, deref_lst, deref_str, deref_bl, deref_non, deref_dK, deref_dT, deref_scr, deref_fn, isObj, bin_add, bin_addS, bin_addT, bin_addL, bin_sub, bin_mul, bin_mulL, bin_mulT, bin_fdiv, bin_mod, bin_pow, cmp_eq, cmp_ne, cmp_lt, cmp_le, cmp_gt, cmp_ge, cmp_isB, cmp_isnotB, cmp_is, cmp_isnot, cmp_inn, cmp_notin, eq_int, eq_str, eq_bl, tru_non, tru_bl, tru_int, tru_tup, tru_lst, tru_dK, ix_tup, ix_lst, ix_dK, ix_dT, bi_lenT, bi_lenL, bi_lenS, bi_int, bi_intB, bi_tupT, bi_tupL, bi_lisT, bi_lisL, bi_repr, bi_all, bi_any, bi_sum, bi_max, bi_min, bi_abs, bi_gcd, in_lst, in_tup, in_dK, in_dT, get_dKi, get_dKs, get_dTt, put_dKi, put_dKs, put_dTt, put_lst, key_int, key_str, keys_nil, keys_cons, slc_tup, slc_lst, slc_scr, end_t, end_f, ty_app, ty_pop, ty_ext, ty_getK, ty_getT, ok_int, ok_str, ok_non, isNop, and_assoc, at_0, at_1, at_2, at_3, h2, h3]
    rw [nxt_nx]
    exact rest
theorem c_states {k : Nat} {sizes : List Nat} {levs : List (List Sta)} {h : MH} {Q : D → MH → Prop} (hl : levs.length ≤ 1000) (w : Q (natsD (levs.map List.length)) h) : Wc (callF prg (k + 1)) 8 [macD sizes levs] h Q := by
  refine wc_at (fn := f_states_at) rfl rfl ?_
  simp only [f_states_at, ws_cons, ws_ret, we_bi, wl_cons]
  refine we_lcI (I := fun j acc h2 => acc = (levs.take j).map (fun l => D.int l.length) ∧ h2 = h) ?_
  rw [we_ix, we_var]
  refine ⟨_, rfl, ?_⟩
  rw [we_int]
  refine ⟨_, at_1, ?_⟩
  refine ⟨levs.map levD, rfl, by rw [List.length_map]; unfold szL; omega, ⟨rfl, rfl⟩, ?_, ?_⟩
  · rintro j x acc h2 hx ⟨rfl, rfl⟩
    rw [List.getElem?_map] at hx
    cases hs : levs[j]? with
    | none => rw [hs] at hx; cases hx
    | some l =>
      rw [hs] at hx
      cases hx
      refine ⟨_, rfl, ?_⟩
      simp [ws_nil, ws_pass, ws_brk, ws_cnt, ws_ret0, ws_cons, nxt_rt, nxt_bk, nxt_ct, ws_asg, ws_put, ws_expr, ws_ret, ws_ite, we_var, we_int, we_str, we_bl, we_non, we_nopart, we_gint, we_gfn, we_bin, we_neg, we_cmp, we_chain, we_andd, we_orr, we_one, we_nott, we_ite, wl_nil, wl_cons, we_tup, we_lst, we_dct, we_dsp, we_call, we_callv, we_bi, we_isi, isiD, we_ix, we_slc, we_rev, we_me, we_frz, we_rng, wf_rt, wf_nx, wr_ok, wr_opt, wr_grd, wr_err, asgD, deref_int, deref_tup, deref_lst, deref_str, deref_bl, deref_non, deref_dK, deref_dT, deref_scr, deref_fn, isObj, bin_add, bin_addS, bin_addT, bin_addL, bin_sub, bin_mul, bin_mulL, bin_mulT, bin_fdiv, bin_mod, bin_pow, cmp_eq, cmp_ne, cmp_lt, cmp_le, cmp_gt, cmp_ge, cmp_isB, cmp_isnotB, cmp_is, cmp_isnot, cmp_inn, cmp_notin, eq_int, eq_str, eq_bl, tru_non, tru_bl, tru_int, tru_tup, tru_lst, tru_dK, ix_tup, ix_lst, ix_dK, ix_dT, bi_lenT, bi_lenL, bi_lenS, bi_int, bi_intB, bi_tupT, bi_tupL, bi_lisT, bi_lisL, bi_repr, bi_all, bi_any, bi_sum, bi_max, bi_min, bi_abs, bi_gcd, in_lst, in_tup, in_dK, in_dT, get_dKi, get_dKs, get_dTt, put_dKi, put_dKs, put_dTt, put_lst, key_int, key_str, keys_nil, keys_cons, slc_tup, slc_lst, slc_scr, end_t, end_f, ty_app, ty_pop, ty_ext, ty_getK, ty_getT, ok_int, ok_str, ok_non, isNop, and_assoc, at_0, at_1, at_2, at_3, wipeD, levD]
      rw [List.take_add_one, List.getElem?_map, hs]
      rfl
  · rintro L h2 ⟨rfl, rfl⟩
    refine wl_nil.mpr ?_
    refine ⟨_, rfl, ?_⟩
    show Wr (finish _ _ _ _) Q
    have e : (levs.take (levs.map levD).length).map (fun l => D.int l.length) = (levs.map List.length).map fun (n : Nat) => D.int n := by
      rw [List.length_map, List.take_length, List.map_map]; rfl
    rw [e]
    have ok : D.okR h2.length (natsD (levs.map List.length)) = true := by
      unfold natsD
      have : ((levs.map List.length).map fun (n : Nat) => D.int n) = (((levs.map List.length).map fun (n : Nat) => (n : Int)).map D.int) := by simp
      rw [this]
      unfold D.okR
      exact okRs_intl _ _
    exact wr_fin ok take_self w
end Lw
/-! k59: walks through a machine. -/
namespace Lw
open Mi
theorem getD_some {α : Type} {l : List α} {i : Nat} {x d : α} (h : l[i]? = some x) : l.getD i d = x := by
  rw [List.getD_eq_getElem?_getD, h]; rfl
theorem getD_none {α : Type} {l : List α} {i : Nat} {d : α} (h : l.length ≤ i) : l.getD i d = d := by
  rw [List.getD_eq_getElem?_getD, List.getElem?_eq_none h]; rfl
def stAt (levs : List (List Sta)) (t n : Nat) : Sta := (levs.getD t []).getD n (.told .non)
def Pos (levs : List (List Sta)) (t n : Nat) : Prop := ∃ lv, levs[t]? = some lv ∧ n < lv.length
/-- the number at the end and how many digits are read -/
def walk (levs : List (List Sta)) : Nat → Nat → List Nat → Nat × Nat
  | _, n, [] => (n, 0)
  | t, n, d :: w => match stAt levs t n with
    | .told _ => (n, 0)
    | .go l => ((walk levs (t + 1) (l.getD d 0) w).1, (walk levs (t + 1) (l.getD d 0) w).2 + 1)
theorem walk_nil {levs : List (List Sta)} {t n : Nat} : walk levs t n [] = (n, 0) := rfl
theorem walk_told {levs : List (List Sta)} {t n : Nat} {v : D} {w : List Nat} (h : stAt levs t n = .told v) : walk levs t n w = (n, 0) := by
  cases w with
  | nil => rfl
  | cons d w => unfold walk; rw [h]
theorem walk_go {levs : List (List Sta)} {t n d : Nat} {l : List Nat} {w : List Nat} (h : stAt levs t n = .go l) : walk levs t n (d :: w) = ((walk levs (t + 1) (l.getD d 0) w).1, (walk levs (t + 1) (l.getD d 0) w).2 + 1) := by
  conv => lhs; unfold walk
  rw [h]
def resD (levs : List (List Sta)) (t n : Nat) : D :=
  match stAt levs t n with
  | .told v => .tup [.str "told", v, .int t]
  | .go _ => .tup [.str "on", .tup [.int t, .int n]]
/-- a right word from a moment on -/
def RW (sizes : List Nat) (t : Nat) (w : List Nat) : Prop := ∀ i d, w[i]? = some d → d < sizes.getD ((t + i) % sizes.length) 0
theorem RW.tail {sizes : List Nat} {t d : Nat} {w : List Nat} (h : RW sizes t (d :: w)) : RW sizes (t + 1) w := fun i x e => by
  have := h (i + 1) x (by simpa using e)
  have e1 : t + (i + 1) = t + 1 + i := by omega
  rwa [e1] at this
theorem RW.head {sizes : List Nat} {t d : Nat} {w : List Nat} (h : RW sizes t (d :: w)) : d < sizes.getD (t % sizes.length) 0 := h 0 d rfl
theorem RW.drop {sizes : List Nat} {t : Nat} {w : List Nat} (h : RW sizes t w) (j : Nat) : RW sizes (t + j) (w.drop j) := fun i x e => by
  rw [List.getElem?_drop] at e
  have := h (j + i) x e
  have e1 : t + (j + i) = t + j + i := by omega
  rwa [e1] at this
theorem RW.take {sizes : List Nat} {t : Nat} {w : List Nat} (h : RW sizes t w) (j : Nat) : RW sizes t (w.take j) := fun i x e => by
  rw [List.getElem?_take] at e
  split at e
  · exact h i x e
  · cases e
section
variable {sizes : List Nat} {levs : List (List Sta)} {t n : Nat}
theorem Pos.st (p : Pos levs t n) : ∃ lv, levs[t]? = some lv ∧ lv[n]? = some (stAt levs t n) := by
  obtain ⟨lv, e1, e2⟩ := p
  refine ⟨lv, e1, ?_⟩
  unfold stAt
  rw [getD_some e1, getD_some (List.getElem?_eq_getElem e2)]
  exact List.getElem?_eq_getElem e2
theorem Pos.ok (wf : WfM sizes levs) (p : Pos levs t n) : StOk (sizes.getD (t % sizes.length) 0) ((levs.getD (t + 1) []).length) (stAt levs t n) := by
  obtain ⟨lv, e1, e2⟩ := p.st
  exact (wf.lv t lv e1).2.2 _ (List.mem_of_getElem? e2)
theorem Pos.lt (p : Pos levs t n) : t < levs.length := by
  obtain ⟨lv, e1, _⟩ := p
  exact (List.getElem?_eq_some_iff.mp e1).1
theorem Pos.small (wf : WfM sizes levs) (p : Pos levs t n) : t ≤ 100 ∧ n ≤ 10 := by
  have := p.lt
  obtain ⟨lv, e1, e2⟩ := p
  have := (wf.lv t lv e1).2.1
  have := wf.l2
  omega
theorem Pos.next (wf : WfM sizes levs) (p : Pos levs t n) {l : List Nat} (h : stAt levs t n = .go l) {d : Nat} (hd : d < sizes.getD (t % sizes.length) 0) : l[d]? = some (l.getD d 0) ∧ Pos levs (t + 1) (l.getD d 0) := by
  have ok := p.ok wf
  rw [h] at ok
  obtain ⟨e1, e2⟩ := ok
  have e3 : l[d]? = some (l.getD d 0) := by
    rw [List.getD_eq_getElem?_getD, List.getElem?_eq_getElem (by omega)]; rfl
  have lt := e2 _ (List.mem_of_getElem? e3)
  refine ⟨e3, ?_⟩
  by_cases c : t + 1 < levs.length
  · rw [getD_some (l := levs) (List.getElem?_eq_getElem c)] at lt
    exact ⟨_, List.getElem?_eq_getElem c, lt⟩
  · rw [getD_none (l := levs) (by omega)] at lt
    exact absurd lt (Nat.not_lt_zero _)
theorem Pos.first (wf : WfM sizes levs) : Pos levs 0 0 := by
  obtain ⟨s, e⟩ := wf.first
  exact ⟨_, e, by simp⟩
/-- the last ones are told -/
theorem Pos.goes (wf : WfM sizes levs) (p : Pos levs t n) {l : List Nat} (h : stAt levs t n = .go l) : t + 1 < levs.length := by
  have lt := p.lt
  by_cases c : t + 1 < levs.length
  · exact c
  · exfalso
    have e : t = levs.length - 1 := by omega
    obtain ⟨lv, e1, e2⟩ := p.st
    have hm : stAt levs t n ∈ levs.getD (levs.length - 1) [] := by
      rw [← e, getD_some e1]
      exact List.mem_of_getElem? e2
    obtain ⟨v, ev⟩ := wf.last _ hm
    rw [h] at ev
    cases ev
theorem walk_pos (wf : WfM sizes levs) : ∀ (w : List Nat) (t n : Nat), Pos levs t n → RW sizes t w → Pos levs (t + (walk levs t n w).2) (walk levs t n w).1 ∧ (walk levs t n w).2 ≤ w.length
  | [], t, n, p, _ => ⟨p, Nat.le_refl _⟩
  | d :: w, t, n, p, h => by
    cases s : stAt levs t n with
    | told v => rw [walk_told s]; exact ⟨p, Nat.zero_le _⟩
    | go l =>
      rw [walk_go s]
      have := walk_pos wf w (t + 1) _ (p.next wf s h.head).2 h.tail
      refine ⟨?_, by rw [List.length_cons]; exact Nat.succ_le_succ this.2⟩
      have e : t + ((walk levs (t + 1) (l.getD d 0) w).2 + 1) = t + 1 + (walk levs (t + 1) (l.getD d 0) w).2 := by omega
      rw [e]; exact this.1
/-- a walk stops where it is told or the word ends -/
theorem walk_end : ∀ (w : List Nat) (t n : Nat), (∃ v, stAt levs (t + (walk levs t n w).2) (walk levs t n w).1 = .told v) ∨ (walk levs t n w).2 = w.length
  | [], t, n => .inr rfl
  | d :: w, t, n => by
    cases s : stAt levs t n with
    | told v => rw [walk_told s]; exact .inl ⟨v, s⟩
    | go l =>
      rw [walk_go s]
      have e : t + ((walk levs (t + 1) (l.getD d 0) w).2 + 1) = t + 1 + (walk levs (t + 1) (l.getD d 0) w).2 := by omega
      rw [e]
      rcases walk_end w (t + 1) (l.getD d 0) with q | q
      · exact .inl q
      · exact .inr (by rw [List.length_cons, ← q])
/-- first a part of the word, then the rest -/
theorem walk_part : ∀ (a b : List Nat) (t n : Nat), walk levs t n (a ++ b) = ((walk levs (t + (walk levs t n a).2) (walk levs t n a).1 b).1, (walk levs t n a).2 + (walk levs (t + (walk levs t n a).2) (walk levs t n a).1 b).2) ∨ ∃ v, stAt levs (t + (walk levs t n a).2) (walk levs t n a).1 = .told v ∧ walk levs t n (a ++ b) = walk levs t n a
  | [], b, t, n => .inl (by simp [walk_nil])
  | d :: a, b, t, n => by
    cases s : stAt levs t n with
    | told v =>
      have e1 : walk levs t n (d :: a) = (n, 0) := walk_told s
      have e2 : walk levs t n (d :: a ++ b) = (n, 0) := walk_told s
      rw [e1, e2]
      exact .inr ⟨v, s, rfl⟩
    | go l =>
      rw [List.cons_append, walk_go s, walk_go s]
      have e : t + ((walk levs (t + 1) (l.getD d 0) a).2 + 1) = t + 1 + (walk levs (t + 1) (l.getD d 0) a).2 := by omega
      rcases walk_part a b (t + 1) (l.getD d 0) with q | ⟨v, q1, q2⟩
      · left
        rw [e, q]
        simp
        omega
      · exact .inr ⟨v, by rw [e]; exact q1, by rw [q2]⟩
/-- a word that is long enough is told -/
theorem walk_full (wf : WfM sizes levs) {w : List Nat} (p : Pos levs t n) (h : RW sizes t w) (hw : levs.length ≤ t + w.length + 1) : ∃ v, stAt levs (t + (walk levs t n w).2) (walk levs t n w).1 = .told v := by
  rcases walk_end (levs := levs) w t n with q | q
  · exact q
  · have p2 := (walk_pos wf w t n p h).1
    cases s : stAt levs (t + (walk levs t n w).2) (walk levs t n w).1 with
    | told v => exact ⟨v, rfl⟩
    | go l =>
      have := p2.goes wf s
      omega
end
/-! #### the places of a machine -/
section
variable {sizes : List Nat} {levs : List (List Sta)} {t n : Nat} {h : MH}
theorem de_mac : deref h (macD sizes levs) = macD sizes levs := rfl
theorem de_levs : deref h (levsD levs) = levsD levs := rfl
theorem de_lev {lv : List Sta} : deref h (levD lv) = levD lv := rfl
theorem de_sta {s : Sta} : deref h s.d = s.d := by cases s <;> rfl
theorem de_nats {l : List Nat} : deref h (natsD l) = natsD l := rfl
theorem de_res : deref h (resD levs t n) = resD levs t n := by unfold resD; cases stAt levs t n <;> rfl
theorem ix_mac0 : ixD (macD sizes levs) (.int 0) = some (natsD sizes) := at_0
theorem ix_mac1 : ixD (macD sizes levs) (.int 1) = some (levsD levs) := at_1
theorem ix_levs {lv : List Sta} (h : levs[t]? = some lv) : ixD (levsD levs) (.int t) = some (levD lv) := lev_at h
theorem ix_lev {lv : List Sta} {s : Sta} (h : lv[n]? = some s) : ixD (levD lv) (.int n) = some s.d := at_nat (by rw [List.getElem?_map, h]; rfl)
theorem ix_nats {l : List Nat} {i m : Nat} (h : l[i]? = some m) : ixD (natsD l) (.int i) = some (.int m) := at_nat (by rw [List.getElem?_map, h]; rfl)
theorem ix_told0 {v : D} : ixD (Sta.told v).d (.int 0) = some (.str "told") := at_0
theorem ix_told1 {v : D} : ixD (Sta.told v).d (.int 1) = some v := at_1
theorem ix_go0 {l : List Nat} : ixD (Sta.go l).d (.int 0) = some (.str "go") := at_0
theorem ix_go1 {l : List Nat} : ixD (Sta.go l).d (.int 1) = some (natsD l) := at_1
theorem res_told {v : D} (e : stAt levs t n = .told v) : resD levs t n = .tup [.str "told", v, .int t] := by unfold resD; rw [e]
theorem res_go {l : List Nat} (e : stAt levs t n = .go l) : resD levs t n = .tup [.str "on", .tup [.int t, .int n]] := by unfold resD; rw [e]
theorem on_told : ¬ PySem.Str.ofString "on" = PySem.Str.ofString "told" := by decide +kernel
theorem told_on : ¬ PySem.Str.ofString "told" = PySem.Str.ofString "on" := by decide +kernel
theorem len_nats {l : List Nat} : biD .len [natsD l] = some (.int l.length) := by unfold natsD; rw [bi_lenT, List.length_map]
theorem resD_ok (wf : WfM sizes levs) (p : Pos levs t n) (m : Nat) : D.okR m (resD levs t n) = true := by
  have ok := p.ok wf
  unfold resD
  cases s : stAt levs t n with
  | told v =>
    rw [s] at ok
    show (true && (D.okR m v && (true && true))) = true
    rw [IsV.ok ok]; rfl
  | go l => rfl
theorem resD_text (wf : WfM sizes levs) (p : Pos levs t n) : Dat 3 1000 (resD levs t n) := by
  have ok := p.ok wf
  have sm := p.small wf
  have dt : Dat 2 102 (.int t) := Dat.nat (m := 100) sm.1 (by decide)
  have dn : Dat 1 12 (.int n) := Dat.nat (m := 10) sm.2 (by decide)
  have d1 : Dat 1 102 (.int t) := Dat.nat (m := 100) sm.1 (by decide)
  unfold resD
  cases s : stAt levs t n with
  | told v =>
    rw [s] at ok
    exact (Dat.tup (Dats.cons dat_told (Dats.cons ((IsV.dat ok).mono (by decide) (Nat.le_refl _)) (Dats.cons dt .nil)))).mono (by decide) (by decide)
  | go l =>
    exact (Dat.tup (Dats.cons (dep := 2) (s := 10) (Dat.str (by decide +kernel) (by decide +kernel)) (Dats.cons (Dat.tup (Dats.cons d1 (Dats.cons dn .nil))) .nil))).mono (by decide) (by decide)
end
section
variable {k t n : Nat} {sizes : List Nat} {levs : List (List Sta)} {h : MH} {Q : D → MH → Prop}
theorem c_opened (wf : WfM sizes levs) (p : Pos levs t n) (w : Q (resD levs t n) h) : Wc (callF prg (k + 1)) 10 [macD sizes levs, .int t, .int n] h Q := by
  obtain ⟨lv, e1, e2⟩ := p.st
  have ok := resD_ok wf p h.length
  refine wc_at (fn := f_opened) rfl rfl ?_
  simp [f_opened, ws_nil, ws_pass, ws_brk, ws_cnt, ws_ret0, ws_cons, nxt_rt, nxt_bk, nxt_ct, ws_asg, ws_put, ws_expr, ws_ret, ws_ite, we_var, we_int, we_str, we_bl, we_non, we_nopart, we_gint, we_gfn, we_bin, we_neg, we_cmp, we_chain, we_andd, we_orr, we_one, we_nott, we_ite, wl_nil, wl_cons, we_tup, we_lst, we_dct, we_dsp, we_call, we_callv, we_bi, we_isi, isiD, we_ix, we_slc, we_rev, we_me, we_frz, we_rng, wf_rt, wf_nx, wr_ok, wr_opt, wr_grd, wr_err, asgD, deref_int, deref_tup, deref_lst, deref_str, deref_bl, deref_non, deref_dK, deref_dT, deref_scr, deref_fn, isObj, bin_add, bin_addS, bin_addT, bin_addL, bin_sub, bin_mul, bin_mulL, bin_mulT, bin_fdiv, bin_mod, bin_pow, cmp_eq, cmp_ne, cmp_lt, cmp_le, cmp_gt, cmp_ge, cmp_isB, cmp_isnotB, cmp_is, cmp_isnot, cmp_inn, cmp_notin, eq_int, eq_str, eq_bl, tru_non, tru_bl, tru_int, tru_tup, tru_lst, tru_dK, ix_tup, ix_lst, ix_dK, ix_dT, bi_lenT, bi_lenL, bi_lenS, bi_int, bi_intB, bi_tupT, bi_tupL, bi_lisT, bi_lisL, bi_repr, bi_all, bi_any, bi_sum, bi_max, bi_min, bi_abs, bi_gcd, in_lst, in_tup, in_dK, in_dT, get_dKi, get_dKs, get_dTt, put_dKi, put_dKs, put_dTt, put_lst, key_int, key_str, keys_nil, keys_cons, slc_tup, slc_lst, slc_scr, end_t, end_f, ty_app, ty_pop, ty_ext, ty_getK, ty_getT, ok_int, ok_str, ok_non, isNop, and_assoc, at_0, at_1, at_2, at_3, de_mac, de_levs, de_lev, ix_mac1, ix_levs e1, ix_lev e2, de_sta]
  rw [nxt_nx]
  cases s : stAt levs t n with
  | told v =>
    rw [res_told s] at w ok
    simp [ws_nil, ws_pass, ws_brk, ws_cnt, ws_ret0, ws_cons, nxt_rt, nxt_bk, nxt_ct, ws_asg, ws_put, ws_expr, ws_ret, ws_ite, we_var, we_int, we_str, we_bl, we_non, we_nopart, we_gint, we_gfn, we_bin, we_neg, we_cmp, we_chain, we_andd, we_orr, we_one, we_nott, we_ite, wl_nil, wl_cons, we_tup, we_lst, we_dct, we_dsp, we_call, we_callv, we_bi, we_isi, isiD, we_ix, we_slc, we_rev, we_me, we_frz, we_rng, wf_rt, wf_nx, wr_ok, wr_opt, wr_grd, wr_err, asgD, deref_int, deref_tup, deref_lst, deref_str, deref_bl, deref_non, deref_dK, deref_dT, deref_scr, deref_fn, isObj, bin_add, bin_addS, bin_addT, bin_addL, bin_sub, bin_mul, bin_mulL, bin_mulT, bin_fdiv, bin_mod, bin_pow, cmp_eq, cmp_ne, cmp_lt, cmp_le, cmp_gt, cmp_ge, cmp_isB, cmp_isnotB, cmp_is, cmp_isnot, cmp_inn, cmp_notin, eq_int, eq_str, eq_bl, tru_non, tru_bl, tru_int, tru_tup, tru_lst, tru_dK, ix_tup, ix_lst, ix_dK, ix_dT, bi_lenT, bi_lenL, bi_lenS, bi_int, bi_intB, bi_tupT, bi_tupL, bi_lisT, bi_lisL, bi_repr, bi_all, bi_any, bi_sum, bi_max, bi_min, bi_abs, bi_gcd, in_lst, in_tup, in_dK, in_dT, get_dKi, get_dKs, get_dTt, put_dKi, put_dKs, put_dTt, put_lst, key_int, key_str, keys_nil, keys_cons, slc_tup, slc_lst, slc_scr, end_t, end_f, ty_app, ty_pop, ty_ext, ty_getK, ty_getT, ok_int, ok_str, ok_non, isNop, and_assoc, at_0, at_1, at_2, at_3, de_sta, ix_told0, ix_told1, told_go, szL]
    exact wr_fin ok take_self w
  | go l =>
    rw [res_go s] at w ok
    simp [ws_nil, ws_pass, ws_brk, ws_cnt, ws_ret0, ws_cons, nxt_rt, nxt_bk, nxt_ct, ws_asg, ws_put, ws_expr, ws_ret, ws_ite, we_var, we_int, we_str, we_bl, we_non, we_nopart, we_gint, we_gfn, we_bin, we_neg, we_cmp, we_chain, we_andd, we_orr, we_one, we_nott, we_ite, wl_nil, wl_cons, we_tup, we_lst, we_dct, we_dsp, we_call, we_callv, we_bi, we_isi, isiD, we_ix, we_slc, we_rev, we_me, we_frz, we_rng, wf_rt, wf_nx, wr_ok, wr_opt, wr_grd, wr_err, asgD, deref_int, deref_tup, deref_lst, deref_str, deref_bl, deref_non, deref_dK, deref_dT, deref_scr, deref_fn, isObj, bin_add, bin_addS, bin_addT, bin_addL, bin_sub, bin_mul, bin_mulL, bin_mulT, bin_fdiv, bin_mod, bin_pow, cmp_eq, cmp_ne, cmp_lt, cmp_le, cmp_gt, cmp_ge, cmp_isB, cmp_isnotB, cmp_is, cmp_isnot, cmp_inn, cmp_notin, eq_int, eq_str, eq_bl, tru_non, tru_bl, tru_int, tru_tup, tru_lst, tru_dK, ix_tup, ix_lst, ix_dK, ix_dT, bi_lenT, bi_lenL, bi_lenS, bi_int, bi_intB, bi_tupT, bi_tupL, bi_lisT, bi_lisL, bi_repr, bi_all, bi_any, bi_sum, bi_max, bi_min, bi_abs, bi_gcd, in_lst, in_tup, in_dK, in_dT, get_dKi, get_dKs, get_dTt, put_dKi, put_dKs, put_dTt, put_lst, key_int, key_str, keys_nil, keys_cons, slc_tup, slc_lst, slc_scr, end_t, end_f, ty_app, ty_pop, ty_ext, ty_getK, ty_getT, ok_int, ok_str, ok_non, isNop, and_assoc, at_0, at_1, at_2, at_3, de_sta, ix_go0, szL]
    exact wr_fin ok take_self w
theorem c_result (wf : WfM sizes levs) (p : Pos levs t n) (w : Q (resD levs t n) h) : Wc (callF prg (k + 1)) 22 [macD sizes levs, .int t, .int n] h Q := by
  obtain ⟨lv, e1, e2⟩ := p.st
  have ok := resD_ok wf p h.length
  refine wc_at (fn := f_law_result) rfl rfl ?_
  simp [f_law_result, ws_nil, ws_pass, ws_brk, ws_cnt, ws_ret0, ws_cons, nxt_rt, nxt_bk, nxt_ct, ws_asg, ws_put, ws_expr, ws_ret, ws_ite, we_var, we_int, we_str, we_bl, we_non, we_nopart, we_gint, we_gfn, we_bin, we_neg, we_cmp, we_chain, we_andd, we_orr, we_one, we_nott, we_ite, wl_nil, wl_cons, we_tup, we_lst, we_dct, we_dsp, we_call, we_callv, we_bi, we_isi, isiD, we_ix, we_slc, we_rev, we_me, we_frz, we_rng, wf_rt, wf_nx, wr_ok, wr_opt, wr_grd, wr_err, asgD, deref_int, deref_tup, deref_lst, deref_str, deref_bl, deref_non, deref_dK, deref_dT, deref_scr, deref_fn, isObj, bin_add, bin_addS, bin_addT, bin_addL, bin_sub, bin_mul, bin_mulL, bin_mulT, bin_fdiv, bin_mod, bin_pow, cmp_eq, cmp_ne, cmp_lt, cmp_le, cmp_gt, cmp_ge, cmp_isB, cmp_isnotB, cmp_is, cmp_isnot, cmp_inn, cmp_notin, eq_int, eq_str, eq_bl, tru_non, tru_bl, tru_int, tru_tup, tru_lst, tru_dK, ix_tup, ix_lst, ix_dK, ix_dT, bi_lenT, bi_lenL, bi_lenS, bi_int, bi_intB, bi_tupT, bi_tupL, bi_lisT, bi_lisL, bi_repr, bi_all, bi_any, bi_sum, bi_max, bi_min, bi_abs, bi_gcd, in_lst, in_tup, in_dK, in_dT, get_dKi, get_dKs, get_dTt, put_dKi, put_dKs, put_dTt, put_lst, key_int, key_str, keys_nil, keys_cons, slc_tup, slc_lst, slc_scr, end_t, end_f, ty_app, ty_pop, ty_ext, ty_getK, ty_getT, ok_int, ok_str, ok_non, isNop, and_assoc, at_0, at_1, at_2, at_3, de_mac, de_levs, de_lev, ix_mac1, ix_levs e1, ix_lev e2, de_sta]
  rw [nxt_nx]
  cases s : stAt levs t n with
  | told v =>
    rw [res_told s] at w ok
    simp [ws_nil, ws_pass, ws_brk, ws_cnt, ws_ret0, ws_cons, nxt_rt, nxt_bk, nxt_ct, ws_asg, ws_put, ws_expr, ws_ret, ws_ite, we_var, we_int, we_str, we_bl, we_non, we_nopart, we_gint, we_gfn, we_bin, we_neg, we_cmp, we_chain, we_andd, we_orr, we_one, we_nott, we_ite, wl_nil, wl_cons, we_tup, we_lst, we_dct, we_dsp, we_call, we_callv, we_bi, we_isi, isiD, we_ix, we_slc, we_rev, we_me, we_frz, we_rng, wf_rt, wf_nx, wr_ok, wr_opt, wr_grd, wr_err, asgD, deref_int, deref_tup, deref_lst, deref_str, deref_bl, deref_non, deref_dK, deref_dT, deref_scr, deref_fn, isObj, bin_add, bin_addS, bin_addT, bin_addL, bin_sub, bin_mul, bin_mulL, bin_mulT, bin_fdiv, bin_mod, bin_pow, cmp_eq, cmp_ne, cmp_lt, cmp_le, cmp_gt, cmp_ge, cmp_isB, cmp_isnotB, cmp_is, cmp_isnot, cmp_inn, cmp_notin, eq_int, eq_str, eq_bl, tru_non, tru_bl, tru_int, tru_tup, tru_lst, tru_dK, ix_tup, ix_lst, ix_dK, ix_dT, bi_lenT, bi_lenL, bi_lenS, bi_int, bi_intB, bi_tupT, bi_tupL, bi_lisT, bi_lisL, bi_repr, bi_all, bi_any, bi_sum, bi_max, bi_min, bi_abs, bi_gcd, in_lst, in_tup, in_dK, in_dT, get_dKi, get_dKs, get_dTt, put_dKi, put_dKs, put_dTt, put_lst, key_int, key_str, keys_nil, keys_cons, slc_tup, slc_lst, slc_scr, end_t, end_f, ty_app, ty_pop, ty_ext, ty_getK, ty_getT, ok_int, ok_str, ok_non, isNop, and_assoc, at_0, at_1, at_2, at_3, de_sta, ix_told0, ix_told1, told_go, szL]
    exact wr_fin ok take_self w
  | go l =>
    rw [res_go s] at w ok
    simp [ws_nil, ws_pass, ws_brk, ws_cnt, ws_ret0, ws_cons, nxt_rt, nxt_bk, nxt_ct, ws_asg, ws_put, ws_expr, ws_ret, ws_ite, we_var, we_int, we_str, we_bl, we_non, we_nopart, we_gint, we_gfn, we_bin, we_neg, we_cmp, we_chain, we_andd, we_orr, we_one, we_nott, we_ite, wl_nil, wl_cons, we_tup, we_lst, we_dct, we_dsp, we_call, we_callv, we_bi, we_isi, isiD, we_ix, we_slc, we_rev, we_me, we_frz, we_rng, wf_rt, wf_nx, wr_ok, wr_opt, wr_grd, wr_err, asgD, deref_int, deref_tup, deref_lst, deref_str, deref_bl, deref_non, deref_dK, deref_dT, deref_scr, deref_fn, isObj, bin_add, bin_addS, bin_addT, bin_addL, bin_sub, bin_mul, bin_mulL, bin_mulT, bin_fdiv, bin_mod, bin_pow, cmp_eq, cmp_ne, cmp_lt, cmp_le, cmp_gt, cmp_ge, cmp_isB, cmp_isnotB, cmp_is, cmp_isnot, cmp_inn, cmp_notin, eq_int, eq_str, eq_bl, tru_non, tru_bl, tru_int, tru_tup, tru_lst, tru_dK, ix_tup, ix_lst, ix_dK, ix_dT, bi_lenT, bi_lenL, bi_lenS, bi_int, bi_intB, bi_tupT, bi_tupL, bi_lisT, bi_lisL, bi_repr, bi_all, bi_any, bi_sum, bi_max, bi_min, bi_abs, bi_gcd, in_lst, in_tup, in_dK, in_dT, get_dKi, get_dKs, get_dTt, put_dKi, put_dKs, put_dTt, put_lst, key_int, key_str, keys_nil, keys_cons, slc_tup, slc_lst, slc_scr, end_t, end_f, ty_app, ty_pop, ty_ext, ty_getK, ty_getT, ok_int, ok_str, ok_non, isNop, and_assoc, at_0, at_1, at_2, at_3, de_sta, ix_go0, szL]
    exact wr_fin ok take_self w
theorem c_first (wf : WfM sizes levs) (w : Q (resD levs 0 0) h) : Wc (callF prg (k + 2)) 11 [macD sizes levs] h Q := by
  refine wc_at (fn := f_first_reader) rfl rfl ?_
  simp [f_first_reader, ws_nil, ws_pass, ws_brk, ws_cnt, ws_ret0, ws_cons, nxt_rt, nxt_bk, nxt_ct, ws_asg, ws_put, ws_expr, ws_ret, ws_ite, we_var, we_int, we_str, we_bl, we_non, we_nopart, we_gint, we_gfn, we_bin, we_neg, we_cmp, we_chain, we_andd, we_orr, we_one, we_nott, we_ite, wl_nil, wl_cons, we_tup, we_lst, we_dct, we_dsp, we_call, we_callv, we_bi, we_isi, isiD, we_ix, we_slc, we_rev, we_me, we_frz, we_rng, wf_rt, wf_nx, wr_ok, wr_opt, wr_grd, wr_err, asgD, deref_int, deref_tup, deref_lst, deref_str, deref_bl, deref_non, deref_dK, deref_dT, deref_scr, deref_fn, isObj, bin_add, bin_addS, bin_addT, bin_addL, bin_sub, bin_mul, bin_mulL, bin_mulT, bin_fdiv, bin_mod, bin_pow, cmp_eq, cmp_ne, cmp_lt, cmp_le, cmp_gt, cmp_ge, cmp_isB, cmp_isnotB, cmp_is, cmp_isnot, cmp_inn, cmp_notin, eq_int, eq_str, eq_bl, tru_non, tru_bl, tru_int, tru_tup, tru_lst, tru_dK, ix_tup, ix_lst, ix_dK, ix_dT, bi_lenT, bi_lenL, bi_lenS, bi_int, bi_intB, bi_tupT, bi_tupL, bi_lisT, bi_lisL, bi_repr, bi_all, bi_any, bi_sum, bi_max, bi_min, bi_abs, bi_gcd, in_lst, in_tup, in_dK, in_dT, get_dKi, get_dKs, get_dTt, put_dKi, put_dKs, put_dTt, put_lst, key_int, key_str, keys_nil, keys_cons, slc_tup, slc_lst, slc_scr, end_t, end_f, ty_app, ty_pop, ty_ext, ty_getK, ty_getT, ok_int, ok_str, ok_non, isNop, and_assoc, at_0, at_1, at_2, at_3]
  refine c_opened (t := 0) (n := 0) wf (Pos.first wf) ?_
  exact wr_fin (resD_ok wf (Pos.first wf) _) take_self w
theorem c_read {l : List Nat} {d : Nat} (wf : WfM sizes levs) (p : Pos levs t n) (s : stAt levs t n = .go l) (hd : d < sizes.getD (t % sizes.length) 0) (w : Q (resD levs (t + 1) (l.getD d 0)) h) : Wc (callF prg (k + 2)) 12 [macD sizes levs, .tup [.int t, .int n], .int d] h Q := by
  obtain ⟨lv, e1, e2⟩ := p.st
  obtain ⟨e3, p2⟩ := p.next wf s hd
  rw [s] at e2
  refine wc_at (fn := f_read) rfl rfl ?_
  simp [f_read, ws_nil, ws_pass, ws_brk, ws_cnt, ws_ret0, ws_cons, nxt_rt, nxt_bk, nxt_ct, ws_asg, ws_put, ws_expr, ws_ret, ws_ite, we_var, we_int, we_str, we_bl, we_non, we_nopart, we_gint, we_gfn, we_bin, we_neg, we_cmp, we_chain, we_andd, we_orr, we_one, we_nott, we_ite, wl_nil, wl_cons, we_tup, we_lst, we_dct, we_dsp, we_call, we_callv, we_bi, we_isi, isiD, we_ix, we_slc, we_rev, we_me, we_frz, we_rng, wf_rt, wf_nx, wr_ok, wr_opt, wr_grd, wr_err, asgD, deref_int, deref_tup, deref_lst, deref_str, deref_bl, deref_non, deref_dK, deref_dT, deref_scr, deref_fn, isObj, bin_add, bin_addS, bin_addT, bin_addL, bin_sub, bin_mul, bin_mulL, bin_mulT, bin_fdiv, bin_mod, bin_pow, cmp_eq, cmp_ne, cmp_lt, cmp_le, cmp_gt, cmp_ge, cmp_isB, cmp_isnotB, cmp_is, cmp_isnot, cmp_inn, cmp_notin, eq_int, eq_str, eq_bl, tru_non, tru_bl, tru_int, tru_tup, tru_lst, tru_dK, ix_tup, ix_lst, ix_dK, ix_dT, bi_lenT, bi_lenL, bi_lenS, bi_int, bi_intB, bi_tupT, bi_tupL, bi_lisT, bi_lisL, bi_repr, bi_all, bi_any, bi_sum, bi_max, bi_min, bi_abs, bi_gcd, in_lst, in_tup, in_dK, in_dT, get_dKi, get_dKs, get_dTt, put_dKi, put_dKs, put_dTt, put_lst, key_int, key_str, keys_nil, keys_cons, slc_tup, slc_lst, slc_scr, end_t, end_f, ty_app, ty_pop, ty_ext, ty_getK, ty_getT, ok_int, ok_str, ok_non, isNop, and_assoc, at_0, at_1, at_2, at_3]
  rw [nxt_nx]
  simp [ws_nil, ws_pass, ws_brk, ws_cnt, ws_ret0, ws_cons, nxt_rt, nxt_bk, nxt_ct, ws_asg, ws_put, ws_expr, ws_ret, ws_ite, we_var, we_int, we_str, we_bl, we_non, we_nopart, we_gint, we_gfn, we_bin, we_neg, we_cmp, we_chain, we_andd, we_orr, we_one, we_nott, we_ite, wl_nil, wl_cons, we_tup, we_lst, we_dct, we_dsp, we_call, we_callv, we_bi, we_isi, isiD, we_ix, we_slc, we_rev, we_me, we_frz, we_rng, wf_rt, wf_nx, wr_ok, wr_opt, wr_grd, wr_err, asgD, deref_int, deref_tup, deref_lst, deref_str, deref_bl, deref_non, deref_dK, deref_dT, deref_scr, deref_fn, isObj, bin_add, bin_addS, bin_addT, bin_addL, bin_sub, bin_mul, bin_mulL, bin_mulT, bin_fdiv, bin_mod, bin_pow, cmp_eq, cmp_ne, cmp_lt, cmp_le, cmp_gt, cmp_ge, cmp_isB, cmp_isnotB, cmp_is, cmp_isnot, cmp_inn, cmp_notin, eq_int, eq_str, eq_bl, tru_non, tru_bl, tru_int, tru_tup, tru_lst, tru_dK, ix_tup, ix_lst, ix_dK, ix_dT, bi_lenT, bi_lenL, bi_lenS, bi_int, bi_intB, bi_tupT, bi_tupL, bi_lisT, bi_lisL, bi_repr, bi_all, bi_any, bi_sum, bi_max, bi_min, bi_abs, bi_gcd, in_lst, in_tup, in_dK, in_dT, get_dKi, get_dKs, get_dTt, put_dKi, put_dKs, put_dTt, put_lst, key_int, key_str, keys_nil, keys_cons, slc_tup, slc_lst, slc_scr, end_t, end_f, ty_app, ty_pop, ty_ext, ty_getK, ty_getT, ok_int, ok_str, ok_non, isNop, and_assoc, at_0, at_1, at_2, at_3, de_mac, de_levs, de_lev, ix_mac1, ix_levs e1, ix_lev e2, de_sta, ix_go1, de_nats, ix_nats e3]
  refine c_opened (t := t + 1) wf p2 ?_
  exact wr_fin (resD_ok wf p2 _) take_self w
theorem c_read_all {l : List Nat} {u : List Nat} (wf : WfM sizes levs) (p : Pos levs t n) (s : stAt levs t n = .go l) (hu : RW sizes t u) (hz : u.length ≤ 1000)
    (w : Q (.tup [resD levs (t + (walk levs t n u).2) (walk levs t n u).1, .int ((walk levs t n u).2 : Nat)]) h) : Wc (callF prg (k + 3)) 13 [macD sizes levs, .tup [.int t, .int n], natsD u] h Q := by
  obtain ⟨wp, wl⟩ := walk_pos wf u t n p hu
  have okr := resD_ok wf wp h.length
  refine wc_at (fn := f_read_all) rfl rfl ?_
  simp [f_read_all, ws_nil, ws_pass, ws_brk, ws_cnt, ws_ret0, ws_cons, nxt_rt, nxt_bk, nxt_ct, ws_asg, ws_put, ws_expr, ws_ret, ws_ite, we_var, we_int, we_str, we_bl, we_non, we_nopart, we_gint, we_gfn, we_bin, we_neg, we_cmp, we_chain, we_andd, we_orr, we_one, we_nott, we_ite, wl_nil, wl_cons, we_tup, we_lst, we_dct, we_dsp, we_call, we_callv, we_bi, we_isi, isiD, we_ix, we_slc, we_rev, we_me, we_frz, we_rng, wf_rt, wf_nx, wr_ok, wr_opt, wr_grd, wr_err, asgD, deref_int, deref_tup, deref_lst, deref_str, deref_bl, deref_non, deref_dK, deref_dT, deref_scr, deref_fn, isObj, bin_add, bin_addS, bin_addT, bin_addL, bin_sub, bin_mul, bin_mulL, bin_mulT, bin_fdiv, bin_mod, bin_pow, cmp_eq, cmp_ne, cmp_lt, cmp_le, cmp_gt, cmp_ge, cmp_isB, cmp_isnotB, cmp_is, cmp_isnot, cmp_inn, cmp_notin, eq_int, eq_str, eq_bl, tru_non, tru_bl, tru_int, tru_tup, tru_lst, tru_dK, ix_tup, ix_lst, ix_dK, ix_dT, bi_lenT, bi_lenL, bi_lenS, bi_int, bi_intB, bi_tupT, bi_tupL, bi_lisT, bi_lisL, bi_repr, bi_all, bi_any, bi_sum, bi_max, bi_min, bi_abs, bi_gcd, in_lst, in_tup, in_dK, in_dT, get_dKi, get_dKs, get_dTt, put_dKi, put_dKs, put_dTt, put_lst, key_int, key_str, keys_nil, keys_cons, slc_tup, slc_lst, slc_scr, end_t, end_f, ty_app, ty_pop, ty_ext, ty_getK, ty_getT, ok_int, ok_str, ok_non, isNop, and_assoc, at_0, at_1, at_2, at_3, szL]
  rw [nxt_nx, ws_cons]
  refine ws_whil (I := fun m σ h' => ∃ c n', σ = [some (macD sizes levs), some (.tup [.int t, .int n]), some (natsD u), some (resD levs (t + c) n'), some (.int (c : Nat))] ∧ h' = h ∧ c ≤ u.length ∧ m = u.length - c ∧ Pos levs (t + c) n' ∧ walk levs t n u = ((walk levs (t + c) n' (u.drop c)).1, c + (walk levs (t + c) n' (u.drop c)).2)) u.length (by unfold wfuel; omega) ⟨0, n, by rw [Nat.add_zero, res_go s]; rfl, rfl, Nat.zero_le _, rfl, by simpa using p, by simp⟩ ?_
  rintro m σ h' ⟨c, n', rfl, rfl, hc, rfl, p', ew⟩
  have fin : ((∃ v, stAt levs (t + c) n' = .told v) ∨ c = u.length) → nxt (callF prg (k + 2)) (.cons (.ret (.tup (.cons (.var 3) (.cons (.var 4) (.nil))))) (.nil)) (Wf false h'.length Q) .nx [some (macD sizes levs), some (.tup [.int t, .int n]), some (natsD u), some (resD levs (t + c) n'), some (.int (c : Nat))] h' := fun q => by
    have e : walk levs t n u = (n', c) := by
      rw [ew]
      rcases q with ⟨v, q⟩ | q
      · rw [walk_told q]; rfl
      · rw [q, List.drop_length, walk_nil]; rfl
    rw [e] at w okr
    rw [nxt_nx]
    simp [ws_nil, ws_pass, ws_brk, ws_cnt, ws_ret0, ws_cons, nxt_rt, nxt_bk, nxt_ct, ws_asg, ws_put, ws_expr, ws_ret, ws_ite, we_var, we_int, we_str, we_bl, we_non, we_nopart, we_gint, we_gfn, we_bin, we_neg, we_cmp, we_chain, we_andd, we_orr, we_one, we_nott, we_ite, wl_nil, wl_cons, we_tup, we_lst, we_dct, we_dsp, we_call, we_callv, we_bi, we_isi, isiD, we_ix, we_slc, we_rev, we_me, we_frz, we_rng, wf_rt, wf_nx, wr_ok, wr_opt, wr_grd, wr_err, asgD, deref_int, deref_tup, deref_lst, deref_str, deref_bl, deref_non, deref_dK, deref_dT, deref_scr, deref_fn, isObj, bin_add, bin_addS, bin_addT, bin_addL, bin_sub, bin_mul, bin_mulL, bin_mulT, bin_fdiv, bin_mod, bin_pow, cmp_eq, cmp_ne, cmp_lt, cmp_le, cmp_gt, cmp_ge, cmp_isB, cmp_isnotB, cmp_is, cmp_isnot, cmp_inn, cmp_notin, eq_int, eq_str, eq_bl, tru_non, tru_bl, tru_int, tru_tup, tru_lst, tru_dK, ix_tup, ix_lst, ix_dK, ix_dT, bi_lenT, bi_lenL, bi_lenS, bi_int, bi_intB, bi_tupT, bi_tupL, bi_lisT, bi_lisL, bi_repr, bi_all, bi_any, bi_sum, bi_max, bi_min, bi_abs, bi_gcd, in_lst, in_tup, in_dK, in_dT, get_dKi, get_dKs, get_dTt, put_dKi, put_dKs, put_dTt, put_lst, key_int, key_str, keys_nil, keys_cons, slc_tup, slc_lst, slc_scr, end_t, end_f, ty_app, ty_pop, ty_ext, ty_getK, ty_getT, ok_int, ok_str, ok_non, isNop, and_assoc, at_0, at_1, at_2, at_3, szL]
    refine wr_fin ?_ take_self w
    show (D.okR h'.length (resD levs (t + c) n') && (true && true)) = true
    rw [okr]; rfl
  cases s' : stAt levs (t + c) n' with
  | told v =>
    have f := fin (.inl ⟨v, s'⟩)
    rw [res_told s'] at f ⊢
    simp [ws_nil, ws_pass, ws_brk, ws_cnt, ws_ret0, ws_cons, nxt_rt, nxt_bk, nxt_ct, ws_asg, ws_put, ws_expr, ws_ret, ws_ite, we_var, we_int, we_str, we_bl, we_non, we_nopart, we_gint, we_gfn, we_bin, we_neg, we_cmp, we_chain, we_andd, we_orr, we_one, we_nott, we_ite, wl_nil, wl_cons, we_tup, we_lst, we_dct, we_dsp, we_call, we_callv, we_bi, we_isi, isiD, we_ix, we_slc, we_rev, we_me, we_frz, we_rng, wf_rt, wf_nx, wr_ok, wr_opt, wr_grd, wr_err, asgD, deref_int, deref_tup, deref_lst, deref_str, deref_bl, deref_non, deref_dK, deref_dT, deref_scr, deref_fn, isObj, bin_add, bin_addS, bin_addT, bin_addL, bin_sub, bin_mul, bin_mulL, bin_mulT, bin_fdiv, bin_mod, bin_pow, cmp_eq, cmp_ne, cmp_lt, cmp_le, cmp_gt, cmp_ge, cmp_isB, cmp_isnotB, cmp_is, cmp_isnot, cmp_inn, cmp_notin, eq_int, eq_str, eq_bl, tru_non, tru_bl, tru_int, tru_tup, tru_lst, tru_dK, ix_tup, ix_lst, ix_dK, ix_dT, bi_lenT, bi_lenL, bi_lenS, bi_int, bi_intB, bi_tupT, bi_tupL, bi_lisT, bi_lisL, bi_repr, bi_all, bi_any, bi_sum, bi_max, bi_min, bi_abs, bi_gcd, in_lst, in_tup, in_dK, in_dT, get_dKi, get_dKs, get_dTt, put_dKi, put_dKs, put_dTt, put_lst, key_int, key_str, keys_nil, keys_cons, slc_tup, slc_lst, slc_scr, end_t, end_f, ty_app, ty_pop, ty_ext, ty_getK, ty_getT, ok_int, ok_str, ok_non, isNop, and_assoc, at_0, at_1, at_2, at_3, told_on]
    exact f
  | go l' =>
    by_cases c1 : c < u.length
    · have c2 : (c : Int) < u.length := by omega
      have c3 : ¬ u.length ≤ c := by omega
      have hg : u[c]? = some u[c] := List.getElem?_eq_getElem c1
      have hd : u[c] < sizes.getD ((t + c) % sizes.length) 0 := hu c _ hg
      rw [res_go s']
      simp [ws_nil, ws_pass, ws_brk, ws_cnt, ws_ret0, ws_cons, nxt_rt, nxt_bk, nxt_ct, ws_asg, ws_put, ws_expr, ws_ret, ws_ite, we_var, we_int, we_str, we_bl, we_non, we_nopart, we_gint, we_gfn, we_bin, we_neg, we_cmp, we_chain, we_andd, we_orr, we_one, we_nott, we_ite, wl_nil, wl_cons, we_tup, we_lst, we_dct, we_dsp, we_call, we_callv, we_bi, we_isi, isiD, we_ix, we_slc, we_rev, we_me, we_frz, we_rng, wf_rt, wf_nx, wr_ok, wr_opt, wr_grd, wr_err, asgD, deref_int, deref_tup, deref_lst, deref_str, deref_bl, deref_non, deref_dK, deref_dT, deref_scr, deref_fn, isObj, bin_add, bin_addS, bin_addT, bin_addL, bin_sub, bin_mul, bin_mulL, bin_mulT, bin_fdiv, bin_mod, bin_pow, cmp_eq, cmp_ne, cmp_lt, cmp_le, cmp_gt, cmp_ge, cmp_isB, cmp_isnotB, cmp_is, cmp_isnot, cmp_inn, cmp_notin, eq_int, eq_str, eq_bl, tru_non, tru_bl, tru_int, tru_tup, tru_lst, tru_dK, ix_tup, ix_lst, ix_dK, ix_dT, bi_lenT, bi_lenL, bi_lenS, bi_int, bi_intB, bi_tupT, bi_tupL, bi_lisT, bi_lisL, bi_repr, bi_all, bi_any, bi_sum, bi_max, bi_min, bi_abs, bi_gcd, in_lst, in_tup, in_dK, in_dT, get_dKi, get_dKs, get_dTt, put_dKi, put_dKs, put_dTt, put_lst, key_int, key_str, keys_nil, keys_cons, slc_tup, slc_lst, slc_scr, end_t, end_f, ty_app, ty_pop, ty_ext, ty_getK, ty_getT, ok_int, ok_str, ok_non, isNop, and_assoc, at_0, at_1, at_2, at_3, de_nats, len_nats, c1, c2, c3]
      rw [ix_nats hg]
      simp
      have e1 : ((t : Int) + (c : Int)) = ((t + c : Nat) : Int) := by simp
      rw [e1]
      refine ⟨by omega, ?_⟩
      refine c_read wf p' s' hd ?_
      rw [nxt_nx]
      simp [ws_nil, ws_pass, ws_brk, ws_cnt, ws_ret0, ws_cons, nxt_rt, nxt_bk, nxt_ct, ws_asg, ws_put, ws_expr, ws_ret, ws_ite, we_var, we_int, we_str, we_bl, we_non, we_nopart, we_gint, we_gfn, we_bin, we_neg, we_cmp, we_chain, we_andd, we_orr, we_one, we_nott, we_ite, wl_nil, wl_cons, we_tup, we_lst, we_dct, we_dsp, we_call, we_callv, we_bi, we_isi, isiD, we_ix, we_slc, we_rev, we_me, we_frz, we_rng, wf_rt, wf_nx, wr_ok, wr_opt, wr_grd, wr_err, asgD, deref_int, deref_tup, deref_lst, deref_str, deref_bl, deref_non, deref_dK, deref_dT, deref_scr, deref_fn, isObj, bin_add, bin_addS, bin_addT, bin_addL, bin_sub, bin_mul, bin_mulL, bin_mulT, bin_fdiv, bin_mod, bin_pow, cmp_eq, cmp_ne, cmp_lt, cmp_le, cmp_gt, cmp_ge, cmp_isB, cmp_isnotB, cmp_is, cmp_isnot, cmp_inn, cmp_notin, eq_int, eq_str, eq_bl, tru_non, tru_bl, tru_int, tru_tup, tru_lst, tru_dK, ix_tup, ix_lst, ix_dK, ix_dT, bi_lenT, bi_lenL, bi_lenS, bi_int, bi_intB, bi_tupT, bi_tupL, bi_lisT, bi_lisL, bi_repr, bi_all, bi_any, bi_sum, bi_max, bi_min, bi_abs, bi_gcd, in_lst, in_tup, in_dK, in_dT, get_dKi, get_dKs, get_dTt, put_dKi, put_dKs, put_dTt, put_lst, key_int, key_str, keys_nil, keys_cons, slc_tup, slc_lst, slc_scr, end_t, end_f, ty_app, ty_pop, ty_ext, ty_getK, ty_getT, ok_int, ok_str, ok_non, isNop, and_assoc, at_0, at_1, at_2, at_3]
      rw [nxt_nx, ws_nil]
      refine ⟨c + 1, _, rfl, rfl, by omega, by omega, (p'.next wf s' hd).2, ?_⟩
      rw [ew, List.drop_eq_getElem_cons c1, walk_go s']
      have e3 : t + (c + 1) = t + c + 1 := by omega
      rw [e3]
      refine Prod.ext rfl ?_
      show c + ((walk levs (t + c + 1) (l'.getD u[c] 0) (u.drop (c + 1))).2 + 1) = c + 1 + (walk levs (t + c + 1) (l'.getD u[c] 0) (u.drop (c + 1))).2
      omega
    · have c0 : c = u.length := by omega
      have f := fin (.inr c0)
      have c3 : u.length ≤ c := by omega
      rw [res_go s'] at f ⊢
      simp [ws_nil, ws_pass, ws_brk, ws_cnt, ws_ret0, ws_cons, nxt_rt, nxt_bk, nxt_ct, ws_asg, ws_put, ws_expr, ws_ret, ws_ite, we_var, we_int, we_str, we_bl, we_non, we_nopart, we_gint, we_gfn, we_bin, we_neg, we_cmp, we_chain, we_andd, we_orr, we_one, we_nott, we_ite, wl_nil, wl_cons, we_tup, we_lst, we_dct, we_dsp, we_call, we_callv, we_bi, we_isi, isiD, we_ix, we_slc, we_rev, we_me, we_frz, we_rng, wf_rt, wf_nx, wr_ok, wr_opt, wr_grd, wr_err, asgD, deref_int, deref_tup, deref_lst, deref_str, deref_bl, deref_non, deref_dK, deref_dT, deref_scr, deref_fn, isObj, bin_add, bin_addS, bin_addT, bin_addL, bin_sub, bin_mul, bin_mulL, bin_mulT, bin_fdiv, bin_mod, bin_pow, cmp_eq, cmp_ne, cmp_lt, cmp_le, cmp_gt, cmp_ge, cmp_isB, cmp_isnotB, cmp_is, cmp_isnot, cmp_inn, cmp_notin, eq_int, eq_str, eq_bl, tru_non, tru_bl, tru_int, tru_tup, tru_lst, tru_dK, ix_tup, ix_lst, ix_dK, ix_dT, bi_lenT, bi_lenL, bi_lenS, bi_int, bi_intB, bi_tupT, bi_tupL, bi_lisT, bi_lisL, bi_repr, bi_all, bi_any, bi_sum, bi_max, bi_min, bi_abs, bi_gcd, in_lst, in_tup, in_dK, in_dT, get_dKi, get_dKs, get_dTt, put_dKi, put_dKs, put_dTt, put_lst, key_int, key_str, keys_nil, keys_cons, slc_tup, slc_lst, slc_scr, end_t, end_f, ty_app, ty_pop, ty_ext, ty_getK, ty_getT, ok_int, ok_str, ok_non, isNop, and_assoc, at_0, at_1, at_2, at_3, de_nats, len_nats, c1, c3]
      exact f
end
end Lw
/-! k59: machines are machines; what is told of words and rows. -/
namespace Lw
open Mi
section
variable {k t n : Nat} {sizes : List Nat} {levs : List (List Sta)} {h : MH} {Q : D → MH → Prop}
theorem WfM.sizes_dat (wf : WfM sizes levs) : eqD (natsD sizes) (.tup []) = some false := by
  have dn : Dats 0 1000 (sizes.map fun (n : Nat) => D.int n) := (Dats.all (dep := 0) (s := 12) fun d hd => by
    obtain ⟨n, hn, rfl⟩ := List.mem_map.mp hd
    have := wf.s3 n hn
    exact Dat.nat (m := 10) (by omega) (by decide)).mono (Nat.le_refl _) (by rw [List.length_map]; have := wf.s2; omega)
  have e3 := Dats.empty dn (by decide)
  have ne2 : (sizes.map fun (n : Nat) => D.int n).isEmpty = false := by
    have := wf.s1
    cases sizes with
    | nil => simp at this
    | cons _ _ => rfl
  rw [ne2] at e3
  exact e3
theorem sum_le : ∀ (l : List (List Sta)), (∀ lv ∈ l, lv.length ≤ 10) → (l.map fun lv => (lv.length : Int)).sum ≤ 10 * l.length
  | [], _ => by simp
  | a :: l, h => by
    have h1 := h a List.mem_cons_self
    have h2 := sum_le l fun x hx => h x (List.mem_cons_of_mem _ hx)
    rw [List.map_cons, List.sum_cons, List.length_cons]
    omega
theorem c_machine (wf : WfM sizes levs) (w : Q (.bl true) h) : Wc (callF prg (k + 5)) 7 [macD sizes levs] h Q := by
  obtain ⟨s0, es0⟩ := wf.first
  have L1 := wf.l1
  have L2 := wf.l2
  refine wc_at (fn := f_is_machine) rfl rfl ?_
  show Ws _ (.cons _ _) _ _ _
  rw [ws_cons]
  have tl : deref h (macD sizes levs) = D.tup [natsD sizes, levsD levs] := rfl
  have isT : isiD .tuple (levsD levs) = some true := rfl
  try simp [ws_nil, ws_pass, ws_brk, ws_cnt, ws_ret0, ws_cons, nxt_rt, nxt_bk, nxt_ct, ws_asg, ws_put, ws_expr, ws_ret, ws_ite, we_var, we_int, we_str, we_bl, we_non, we_nopart, we_gint, we_gfn, we_bin, we_neg, we_cmp, we_chain, we_andd, we_orr, we_one, we_nott, we_ite, wl_nil, wl_cons, we_tup, we_lst, we_dct, we_dsp, we_call, we_callv, we_bi, we_isi, isi_non, isi_bl, isi_int, isi_str, isi_tup, isi_lst, isi_dK, isi_dT, we_ix, we_slc, we_rev, we_me, we_frz, we_rng, wf_rt, wf_nx, wr_ok, wr_opt, wr_grd, wr_err, asgD, deref_int, deref_tup, deref_lst, deref_str, deref_bl, deref_non, deref_dK, deref_dT, deref_scr, deref_fn, isObj, bin_add, bin_addS, bin_addT, bin_addL, bin_sub, bin_mul, bin_mulL, bin_mulT, bin_fdiv, bin_mod, bin_pow, cmp_eq, cmp_ne, cmp_lt, cmp_le, cmp_gt, cmp_ge, cmp_isB, cmp_isnotB, cmp_is, cmp_isnot, cmp_inn, cmp_notin, eq_int, eq_str, eq_bl, tru_non, tru_bl, tru_int, tru_tup, tru_lst, tru_dK, ix_tup, ix_lst, ix_dK, ix_dT, bi_lenT, bi_lenL, bi_lenS, bi_int, bi_intB, bi_tupT, bi_tupL, bi_lisT, bi_lisL, bi_repr, bi_all, bi_any, bi_sum, bi_max, bi_min, bi_abs, bi_gcd, in_lst, in_tup, in_dK, in_dT, get_dKi, get_dKs, get_dTt, put_dKi, put_dKs, put_dTt, put_lst, key_int, key_str, keys_nil, keys_cons, slc_tup, slc_lst, slc_scr, end_t, end_f, ty_app, ty_pop, ty_ext, ty_getK, ty_getT, ok_int, ok_str, ok_non, isNop, and_assoc, at_0, at_1, at_2, at_3, f_is_machine, tl, de_levs, ix_mac0, ix_mac1]
  refine c_menu (by have := wf.s2; omega) (fun n hn => by have := wf.s3 n hn; omega) ?_
  try simp [ws_nil, ws_pass, ws_brk, ws_cnt, ws_ret0, ws_cons, nxt_rt, nxt_bk, nxt_ct, ws_asg, ws_put, ws_expr, ws_ret, ws_ite, we_var, we_int, we_str, we_bl, we_non, we_nopart, we_gint, we_gfn, we_bin, we_neg, we_cmp, we_chain, we_andd, we_orr, we_one, we_nott, we_ite, wl_nil, wl_cons, we_tup, we_lst, we_dct, we_dsp, we_call, we_callv, we_bi, we_isi, isi_non, isi_bl, isi_int, isi_str, isi_tup, isi_lst, isi_dK, isi_dT, we_ix, we_slc, we_rev, we_me, we_frz, we_rng, wf_rt, wf_nx, wr_ok, wr_opt, wr_grd, wr_err, asgD, deref_int, deref_tup, deref_lst, deref_str, deref_bl, deref_non, deref_dK, deref_dT, deref_scr, deref_fn, isObj, bin_add, bin_addS, bin_addT, bin_addL, bin_sub, bin_mul, bin_mulL, bin_mulT, bin_fdiv, bin_mod, bin_pow, cmp_eq, cmp_ne, cmp_lt, cmp_le, cmp_gt, cmp_ge, cmp_isB, cmp_isnotB, cmp_is, cmp_isnot, cmp_inn, cmp_notin, eq_int, eq_str, eq_bl, tru_non, tru_bl, tru_int, tru_tup, tru_lst, tru_dK, ix_tup, ix_lst, ix_dK, ix_dT, bi_lenT, bi_lenL, bi_lenS, bi_int, bi_intB, bi_tupT, bi_tupL, bi_lisT, bi_lisL, bi_repr, bi_all, bi_any, bi_sum, bi_max, bi_min, bi_abs, bi_gcd, in_lst, in_tup, in_dK, in_dT, get_dKi, get_dKs, get_dTt, put_dKi, put_dKs, put_dTt, put_lst, key_int, key_str, keys_nil, keys_cons, slc_tup, slc_lst, slc_scr, end_t, end_f, ty_app, ty_pop, ty_ext, ty_getK, ty_getT, ok_int, ok_str, ok_non, isNop, and_assoc, at_0, at_1, at_2, at_3, tl, ix_mac1, de_levs, isT]
  rw [nxt_nx]
  try simp [ws_nil, ws_pass, ws_brk, ws_cnt, ws_ret0, ws_cons, nxt_rt, nxt_bk, nxt_ct, ws_asg, ws_put, ws_expr, ws_ret, ws_ite, we_var, we_int, we_str, we_bl, we_non, we_nopart, we_gint, we_gfn, we_bin, we_neg, we_cmp, we_chain, we_andd, we_orr, we_one, we_nott, we_ite, wl_nil, wl_cons, we_tup, we_lst, we_dct, we_dsp, we_call, we_callv, we_bi, we_isi, isi_non, isi_bl, isi_int, isi_str, isi_tup, isi_lst, isi_dK, isi_dT, we_ix, we_slc, we_rev, we_me, we_frz, we_rng, wf_rt, wf_nx, wr_ok, wr_opt, wr_grd, wr_err, asgD, deref_int, deref_tup, deref_lst, deref_str, deref_bl, deref_non, deref_dK, deref_dT, deref_scr, deref_fn, isObj, bin_add, bin_addS, bin_addT, bin_addL, bin_sub, bin_mul, bin_mulL, bin_mulT, bin_fdiv, bin_mod, bin_pow, cmp_eq, cmp_ne, cmp_lt, cmp_le, cmp_gt, cmp_ge, cmp_isB, cmp_isnotB, cmp_is, cmp_isnot, cmp_inn, cmp_notin, eq_int, eq_str, eq_bl, tru_non, tru_bl, tru_int, tru_tup, tru_lst, tru_dK, ix_tup, ix_lst, ix_dK, ix_dT, bi_lenT, bi_lenL, bi_lenS, bi_int, bi_intB, bi_tupT, bi_tupL, bi_lisT, bi_lisL, bi_repr, bi_all, bi_any, bi_sum, bi_max, bi_min, bi_abs, bi_gcd, in_lst, in_tup, in_dK, in_dT, get_dKi, get_dKs, get_dTt, put_dKi, put_dKs, put_dTt, put_lst, key_int, key_str, keys_nil, keys_cons, slc_tup, slc_lst, slc_scr, end_t, end_f, ty_app, ty_pop, ty_ext, ty_getK, ty_getT, ok_int, ok_str, ok_non, isNop, and_assoc, at_0, at_1, at_2, at_3, macD]
  rw [nxt_nx]
  have ll : biD .len [levsD levs] = some (.int levs.length) := by unfold levsD; rw [bi_lenT, List.length_map]
  have c1 : ((0 : Int) < levs.length) := by omega
  have c2 : ((levs.length : Int) ≤ 401) := by omega
  have c3 : ¬ (401 : Int) < levs.length := by omega
  try simp [ws_nil, ws_pass, ws_brk, ws_cnt, ws_ret0, ws_cons, nxt_rt, nxt_bk, nxt_ct, ws_asg, ws_put, ws_expr, ws_ret, ws_ite, we_var, we_int, we_str, we_bl, we_non, we_nopart, we_gint, we_gfn, we_bin, we_neg, we_cmp, we_chain, we_andd, we_orr, we_one, we_nott, we_ite, wl_nil, wl_cons, we_tup, we_lst, we_dct, we_dsp, we_call, we_callv, we_bi, we_isi, isi_non, isi_bl, isi_int, isi_str, isi_tup, isi_lst, isi_dK, isi_dT, we_ix, we_slc, we_rev, we_me, we_frz, we_rng, wf_rt, wf_nx, wr_ok, wr_opt, wr_grd, wr_err, asgD, deref_int, deref_tup, deref_lst, deref_str, deref_bl, deref_non, deref_dK, deref_dT, deref_scr, deref_fn, isObj, bin_add, bin_addS, bin_addT, bin_addL, bin_sub, bin_mul, bin_mulL, bin_mulT, bin_fdiv, bin_mod, bin_pow, cmp_eq, cmp_ne, cmp_lt, cmp_le, cmp_gt, cmp_ge, cmp_isB, cmp_isnotB, cmp_is, cmp_isnot, cmp_inn, cmp_notin, eq_int, eq_str, eq_bl, tru_non, tru_bl, tru_int, tru_tup, tru_lst, tru_dK, ix_tup, ix_lst, ix_dK, ix_dT, bi_lenT, bi_lenL, bi_lenS, bi_int, bi_intB, bi_tupT, bi_tupL, bi_lisT, bi_lisL, bi_repr, bi_all, bi_any, bi_sum, bi_max, bi_min, bi_abs, bi_gcd, in_lst, in_tup, in_dK, in_dT, get_dKi, get_dKs, get_dTt, put_dKi, put_dKs, put_dTt, put_lst, key_int, key_str, keys_nil, keys_cons, slc_tup, slc_lst, slc_scr, end_t, end_f, ty_app, ty_pop, ty_ext, ty_getK, ty_getT, ok_int, ok_str, ok_non, isNop, and_assoc, at_0, at_1, at_2, at_3, de_levs, ll, c1, de_nats, wf.sizes_dat, c2, c3, L1]
  rw [nxt_nx, ws_cons, ws_ite, we_orr, we_nott, we_bi, wl_cons]
  refine we_mapS (List.range levs.length) (fun i => D.int i) (fun _ => .bl true) ?_ (by rw [List.length_range]; unfold szL; omega) ?_ ?_
  · try simp [ws_nil, ws_pass, ws_brk, ws_cnt, ws_ret0, ws_cons, nxt_rt, nxt_bk, nxt_ct, ws_asg, ws_put, ws_expr, ws_ret, ws_ite, we_var, we_int, we_str, we_bl, we_non, we_nopart, we_gint, we_gfn, we_bin, we_neg, we_cmp, we_chain, we_andd, we_orr, we_one, we_nott, we_ite, wl_nil, wl_cons, we_tup, we_lst, we_dct, we_dsp, we_call, we_callv, we_bi, we_isi, isi_non, isi_bl, isi_int, isi_str, isi_tup, isi_lst, isi_dK, isi_dT, we_ix, we_slc, we_rev, we_me, we_frz, we_rng, wf_rt, wf_nx, wr_ok, wr_opt, wr_grd, wr_err, asgD, deref_int, deref_tup, deref_lst, deref_str, deref_bl, deref_non, deref_dK, deref_dT, deref_scr, deref_fn, isObj, bin_add, bin_addS, bin_addT, bin_addL, bin_sub, bin_mul, bin_mulL, bin_mulT, bin_fdiv, bin_mod, bin_pow, cmp_eq, cmp_ne, cmp_lt, cmp_le, cmp_gt, cmp_ge, cmp_isB, cmp_isnotB, cmp_is, cmp_isnot, cmp_inn, cmp_notin, eq_int, eq_str, eq_bl, tru_non, tru_bl, tru_int, tru_tup, tru_lst, tru_dK, ix_tup, ix_lst, ix_dK, ix_dT, bi_lenT, bi_lenL, bi_lenS, bi_int, bi_intB, bi_tupT, bi_tupL, bi_lisT, bi_lisL, bi_repr, bi_all, bi_any, bi_sum, bi_max, bi_min, bi_abs, bi_gcd, in_lst, in_tup, in_dK, in_dT, get_dKi, get_dKs, get_dTt, put_dKi, put_dKs, put_dTt, put_lst, key_int, key_str, keys_nil, keys_cons, slc_tup, slc_lst, slc_scr, end_t, end_f, ty_app, ty_pop, ty_ext, ty_getK, ty_getT, ok_int, ok_str, ok_non, isNop, and_assoc, at_0, at_1, at_2, at_3, de_levs, ll, rng_nat (n := levs.length) (by omega)]
    rfl
  · intro i x hx
    have hi : i < levs.length := by
      have := (List.getElem?_eq_some_iff.mp hx).1
      simpa using this
    rw [List.getElem?_range hi] at hx
    cases hx
    refine ⟨_, rfl, ?_⟩
    try simp [ws_nil, ws_pass, ws_brk, ws_cnt, ws_ret0, ws_cons, nxt_rt, nxt_bk, nxt_ct, ws_asg, ws_put, ws_expr, ws_ret, ws_ite, we_var, we_int, we_str, we_bl, we_non, we_nopart, we_gint, we_gfn, we_bin, we_neg, we_cmp, we_chain, we_andd, we_orr, we_one, we_nott, we_ite, wl_nil, wl_cons, we_tup, we_lst, we_dct, we_dsp, we_call, we_callv, we_bi, we_isi, isi_non, isi_bl, isi_int, isi_str, isi_tup, isi_lst, isi_dK, isi_dT, we_ix, we_slc, we_rev, we_me, we_frz, we_rng, wf_rt, wf_nx, wr_ok, wr_opt, wr_grd, wr_err, asgD, deref_int, deref_tup, deref_lst, deref_str, deref_bl, deref_non, deref_dK, deref_dT, deref_scr, deref_fn, isObj, bin_add, bin_addS, bin_addT, bin_addL, bin_sub, bin_mul, bin_mulL, bin_mulT, bin_fdiv, bin_mod, bin_pow, cmp_eq, cmp_ne, cmp_lt, cmp_le, cmp_gt, cmp_ge, cmp_isB, cmp_isnotB, cmp_is, cmp_isnot, cmp_inn, cmp_notin, eq_int, eq_str, eq_bl, tru_non, tru_bl, tru_int, tru_tup, tru_lst, tru_dK, ix_tup, ix_lst, ix_dK, ix_dT, bi_lenT, bi_lenL, bi_lenS, bi_int, bi_intB, bi_tupT, bi_tupL, bi_lisT, bi_lisL, bi_repr, bi_all, bi_any, bi_sum, bi_max, bi_min, bi_abs, bi_gcd, in_lst, in_tup, in_dK, in_dT, get_dKi, get_dKs, get_dTt, put_dKi, put_dKs, put_dTt, put_lst, key_int, key_str, keys_nil, keys_cons, slc_tup, slc_lst, slc_scr, end_t, end_f, ty_app, ty_pop, ty_ext, ty_getK, ty_getT, ok_int, ok_str, ok_non, isNop, and_assoc, at_0, at_1, at_2, at_3, wipeD]
    exact c_level (k := k) wf (List.getElem?_eq_getElem hi) ⟨rfl, rfl⟩
  have a1 : biD .all [deref h (.lst ((List.range levs.length).map fun _ => D.bl true))] = some (.bl true) := all_true _
  have l0 : biD .len [levD [s0]] = some (.int 1) := rfl
  have i0 : ixD (levsD levs) (.int 0) = some (levD [s0]) := ix_levs (t := 0) es0
  rw [if_neg (by decide), wl_nil]
  refine ⟨_, a1, ?_⟩
  try simp [ws_nil, ws_pass, ws_brk, ws_cnt, ws_ret0, ws_cons, nxt_rt, nxt_bk, nxt_ct, ws_asg, ws_put, ws_expr, ws_ret, ws_ite, we_var, we_int, we_str, we_bl, we_non, we_nopart, we_gint, we_gfn, we_bin, we_neg, we_cmp, we_chain, we_andd, we_orr, we_one, we_nott, we_ite, wl_nil, wl_cons, we_tup, we_lst, we_dct, we_dsp, we_call, we_callv, we_bi, we_isi, isi_non, isi_bl, isi_int, isi_str, isi_tup, isi_lst, isi_dK, isi_dT, we_ix, we_slc, we_rev, we_me, we_frz, we_rng, wf_rt, wf_nx, wr_ok, wr_opt, wr_grd, wr_err, asgD, deref_int, deref_tup, deref_lst, deref_str, deref_bl, deref_non, deref_dK, deref_dT, deref_scr, deref_fn, isObj, bin_add, bin_addS, bin_addT, bin_addL, bin_sub, bin_mul, bin_mulL, bin_mulT, bin_fdiv, bin_mod, bin_pow, cmp_eq, cmp_ne, cmp_lt, cmp_le, cmp_gt, cmp_ge, cmp_isB, cmp_isnotB, cmp_is, cmp_isnot, cmp_inn, cmp_notin, eq_int, eq_str, eq_bl, tru_non, tru_bl, tru_int, tru_tup, tru_lst, tru_dK, ix_tup, ix_lst, ix_dK, ix_dT, bi_lenT, bi_lenL, bi_lenS, bi_int, bi_intB, bi_tupT, bi_tupL, bi_lisT, bi_lisL, bi_repr, bi_all, bi_any, bi_sum, bi_max, bi_min, bi_abs, bi_gcd, in_lst, in_tup, in_dK, in_dT, get_dKi, get_dKs, get_dTt, put_dKi, put_dKs, put_dTt, put_lst, key_int, key_str, keys_nil, keys_cons, slc_tup, slc_lst, slc_scr, end_t, end_f, ty_app, ty_pop, ty_ext, ty_getK, ty_getT, ok_int, ok_str, ok_non, isNop, and_assoc, at_0, at_1, at_2, at_3, de_levs, i0, de_lev, l0]
  rw [nxt_nx, ws_cons, ws_ite, we_nott, we_bi, wl_cons]
  have hl : levs[levs.length - 1]? = some levs[levs.length - 1] := List.getElem?_eq_getElem (by omega)
  have al : ixD (levsD levs) (.int (-1)) = some (levD levs[levs.length - 1]) := at_last (by rw [List.getElem?_map, List.length_map, hl]; rfl)
  have hv := wf.lv _ _ hl
  refine we_mapS levs[levs.length - 1] Sta.d (fun _ => .bl true) ?_ (by unfold szL; omega) ?_ ?_
  · try simp [ws_nil, ws_pass, ws_brk, ws_cnt, ws_ret0, ws_cons, nxt_rt, nxt_bk, nxt_ct, ws_asg, ws_put, ws_expr, ws_ret, ws_ite, we_var, we_int, we_str, we_bl, we_non, we_nopart, we_gint, we_gfn, we_bin, we_neg, we_cmp, we_chain, we_andd, we_orr, we_one, we_nott, we_ite, wl_nil, wl_cons, we_tup, we_lst, we_dct, we_dsp, we_call, we_callv, we_bi, we_isi, isi_non, isi_bl, isi_int, isi_str, isi_tup, isi_lst, isi_dK, isi_dT, we_ix, we_slc, we_rev, we_me, we_frz, we_rng, wf_rt, wf_nx, wr_ok, wr_opt, wr_grd, wr_err, asgD, deref_int, deref_tup, deref_lst, deref_str, deref_bl, deref_non, deref_dK, deref_dT, deref_scr, deref_fn, isObj, bin_add, bin_addS, bin_addT, bin_addL, bin_sub, bin_mul, bin_mulL, bin_mulT, bin_fdiv, bin_mod, bin_pow, cmp_eq, cmp_ne, cmp_lt, cmp_le, cmp_gt, cmp_ge, cmp_isB, cmp_isnotB, cmp_is, cmp_isnot, cmp_inn, cmp_notin, eq_int, eq_str, eq_bl, tru_non, tru_bl, tru_int, tru_tup, tru_lst, tru_dK, ix_tup, ix_lst, ix_dK, ix_dT, bi_lenT, bi_lenL, bi_lenS, bi_int, bi_intB, bi_tupT, bi_tupL, bi_lisT, bi_lisL, bi_repr, bi_all, bi_any, bi_sum, bi_max, bi_min, bi_abs, bi_gcd, in_lst, in_tup, in_dK, in_dT, get_dKi, get_dKs, get_dTt, put_dKi, put_dKs, put_dTt, put_lst, key_int, key_str, keys_nil, keys_cons, slc_tup, slc_lst, slc_scr, end_t, end_f, ty_app, ty_pop, ty_ext, ty_getK, ty_getT, ok_int, ok_str, ok_non, isNop, and_assoc, at_0, at_1, at_2, at_3, de_levs, al]
    rfl
  · intro i x hx
    have hm : x ∈ levs.getD (levs.length - 1) [] := by
      rw [getD_some hl]; exact List.mem_of_getElem? hx
    obtain ⟨v, rfl⟩ := wf.last x hm
    refine ⟨_, rfl, ?_⟩
    try simp [ws_nil, ws_pass, ws_brk, ws_cnt, ws_ret0, ws_cons, nxt_rt, nxt_bk, nxt_ct, ws_asg, ws_put, ws_expr, ws_ret, ws_ite, we_var, we_int, we_str, we_bl, we_non, we_nopart, we_gint, we_gfn, we_bin, we_neg, we_cmp, we_chain, we_andd, we_orr, we_one, we_nott, we_ite, wl_nil, wl_cons, we_tup, we_lst, we_dct, we_dsp, we_call, we_callv, we_bi, we_isi, isi_non, isi_bl, isi_int, isi_str, isi_tup, isi_lst, isi_dK, isi_dT, we_ix, we_slc, we_rev, we_me, we_frz, we_rng, wf_rt, wf_nx, wr_ok, wr_opt, wr_grd, wr_err, asgD, deref_int, deref_tup, deref_lst, deref_str, deref_bl, deref_non, deref_dK, deref_dT, deref_scr, deref_fn, isObj, bin_add, bin_addS, bin_addT, bin_addL, bin_sub, bin_mul, bin_mulL, bin_mulT, bin_fdiv, bin_mod, bin_pow, cmp_eq, cmp_ne, cmp_lt, cmp_le, cmp_gt, cmp_ge, cmp_isB, cmp_isnotB, cmp_is, cmp_isnot, cmp_inn, cmp_notin, eq_int, eq_str, eq_bl, tru_non, tru_bl, tru_int, tru_tup, tru_lst, tru_dK, ix_tup, ix_lst, ix_dK, ix_dT, bi_lenT, bi_lenL, bi_lenS, bi_int, bi_intB, bi_tupT, bi_tupL, bi_lisT, bi_lisL, bi_repr, bi_all, bi_any, bi_sum, bi_max, bi_min, bi_abs, bi_gcd, in_lst, in_tup, in_dK, in_dT, get_dKi, get_dKs, get_dTt, put_dKi, put_dKs, put_dTt, put_lst, key_int, key_str, keys_nil, keys_cons, slc_tup, slc_lst, slc_scr, end_t, end_f, ty_app, ty_pop, ty_ext, ty_getK, ty_getT, ok_int, ok_str, ok_non, isNop, and_assoc, at_0, at_1, at_2, at_3, wipeD, de_sta, ix_told0]
  have a2 : biD .all [deref h (.lst (levs[levs.length - 1].map fun _ => D.bl true))] = some (.bl true) := all_true _
  rw [if_neg (by decide), wl_nil]
  refine ⟨_, a2, ?_⟩
  try simp [ws_nil, ws_pass, ws_brk, ws_cnt, ws_ret0, ws_cons, nxt_rt, nxt_bk, nxt_ct, ws_asg, ws_put, ws_expr, ws_ret, ws_ite, we_var, we_int, we_str, we_bl, we_non, we_nopart, we_gint, we_gfn, we_bin, we_neg, we_cmp, we_chain, we_andd, we_orr, we_one, we_nott, we_ite, wl_nil, wl_cons, we_tup, we_lst, we_dct, we_dsp, we_call, we_callv, we_bi, we_isi, isi_non, isi_bl, isi_int, isi_str, isi_tup, isi_lst, isi_dK, isi_dT, we_ix, we_slc, we_rev, we_me, we_frz, we_rng, wf_rt, wf_nx, wr_ok, wr_opt, wr_grd, wr_err, asgD, deref_int, deref_tup, deref_lst, deref_str, deref_bl, deref_non, deref_dK, deref_dT, deref_scr, deref_fn, isObj, bin_add, bin_addS, bin_addT, bin_addL, bin_sub, bin_mul, bin_mulL, bin_mulT, bin_fdiv, bin_mod, bin_pow, cmp_eq, cmp_ne, cmp_lt, cmp_le, cmp_gt, cmp_ge, cmp_isB, cmp_isnotB, cmp_is, cmp_isnot, cmp_inn, cmp_notin, eq_int, eq_str, eq_bl, tru_non, tru_bl, tru_int, tru_tup, tru_lst, tru_dK, ix_tup, ix_lst, ix_dK, ix_dT, bi_lenT, bi_lenL, bi_lenS, bi_int, bi_intB, bi_tupT, bi_tupL, bi_lisT, bi_lisL, bi_repr, bi_all, bi_any, bi_sum, bi_max, bi_min, bi_abs, bi_gcd, in_lst, in_tup, in_dK, in_dT, get_dKi, get_dKs, get_dTt, put_dKi, put_dKs, put_dTt, put_lst, key_int, key_str, keys_nil, keys_cons, slc_tup, slc_lst, slc_scr, end_t, end_f, ty_app, ty_pop, ty_ext, ty_getK, ty_getT, ok_int, ok_str, ok_non, isNop, and_assoc, at_0, at_1, at_2, at_3]
  rw [nxt_nx, ws_cons, ws_ret, we_cmp, we_bi, wl_cons]
  refine we_mapS levs levD (fun lv => .int lv.length) ?_ (by unfold szL; omega) ?_ ?_
  · try simp [ws_nil, ws_pass, ws_brk, ws_cnt, ws_ret0, ws_cons, nxt_rt, nxt_bk, nxt_ct, ws_asg, ws_put, ws_expr, ws_ret, ws_ite, we_var, we_int, we_str, we_bl, we_non, we_nopart, we_gint, we_gfn, we_bin, we_neg, we_cmp, we_chain, we_andd, we_orr, we_one, we_nott, we_ite, wl_nil, wl_cons, we_tup, we_lst, we_dct, we_dsp, we_call, we_callv, we_bi, we_isi, isi_non, isi_bl, isi_int, isi_str, isi_tup, isi_lst, isi_dK, isi_dT, we_ix, we_slc, we_rev, we_me, we_frz, we_rng, wf_rt, wf_nx, wr_ok, wr_opt, wr_grd, wr_err, asgD, deref_int, deref_tup, deref_lst, deref_str, deref_bl, deref_non, deref_dK, deref_dT, deref_scr, deref_fn, isObj, bin_add, bin_addS, bin_addT, bin_addL, bin_sub, bin_mul, bin_mulL, bin_mulT, bin_fdiv, bin_mod, bin_pow, cmp_eq, cmp_ne, cmp_lt, cmp_le, cmp_gt, cmp_ge, cmp_isB, cmp_isnotB, cmp_is, cmp_isnot, cmp_inn, cmp_notin, eq_int, eq_str, eq_bl, tru_non, tru_bl, tru_int, tru_tup, tru_lst, tru_dK, ix_tup, ix_lst, ix_dK, ix_dT, bi_lenT, bi_lenL, bi_lenS, bi_int, bi_intB, bi_tupT, bi_tupL, bi_lisT, bi_lisL, bi_repr, bi_all, bi_any, bi_sum, bi_max, bi_min, bi_abs, bi_gcd, in_lst, in_tup, in_dK, in_dT, get_dKi, get_dKs, get_dTt, put_dKi, put_dKs, put_dTt, put_lst, key_int, key_str, keys_nil, keys_cons, slc_tup, slc_lst, slc_scr, end_t, end_f, ty_app, ty_pop, ty_ext, ty_getK, ty_getT, ok_int, ok_str, ok_non, isNop, and_assoc, at_0, at_1, at_2, at_3]
    rfl
  · intro i x hx
    refine ⟨_, rfl, ?_⟩
    have lx : biD .len [levD x] = some (.int x.length) := by unfold levD; rw [bi_lenT, List.length_map]
    try simp [ws_nil, ws_pass, ws_brk, ws_cnt, ws_ret0, ws_cons, nxt_rt, nxt_bk, nxt_ct, ws_asg, ws_put, ws_expr, ws_ret, ws_ite, we_var, we_int, we_str, we_bl, we_non, we_nopart, we_gint, we_gfn, we_bin, we_neg, we_cmp, we_chain, we_andd, we_orr, we_one, we_nott, we_ite, wl_nil, wl_cons, we_tup, we_lst, we_dct, we_dsp, we_call, we_callv, we_bi, we_isi, isi_non, isi_bl, isi_int, isi_str, isi_tup, isi_lst, isi_dK, isi_dT, we_ix, we_slc, we_rev, we_me, we_frz, we_rng, wf_rt, wf_nx, wr_ok, wr_opt, wr_grd, wr_err, asgD, deref_int, deref_tup, deref_lst, deref_str, deref_bl, deref_non, deref_dK, deref_dT, deref_scr, deref_fn, isObj, bin_add, bin_addS, bin_addT, bin_addL, bin_sub, bin_mul, bin_mulL, bin_mulT, bin_fdiv, bin_mod, bin_pow, cmp_eq, cmp_ne, cmp_lt, cmp_le, cmp_gt, cmp_ge, cmp_isB, cmp_isnotB, cmp_is, cmp_isnot, cmp_inn, cmp_notin, eq_int, eq_str, eq_bl, tru_non, tru_bl, tru_int, tru_tup, tru_lst, tru_dK, ix_tup, ix_lst, ix_dK, ix_dT, bi_lenT, bi_lenL, bi_lenS, bi_int, bi_intB, bi_tupT, bi_tupL, bi_lisT, bi_lisL, bi_repr, bi_all, bi_any, bi_sum, bi_max, bi_min, bi_abs, bi_gcd, in_lst, in_tup, in_dK, in_dT, get_dKi, get_dKs, get_dTt, put_dKi, put_dKs, put_dTt, put_lst, key_int, key_str, keys_nil, keys_cons, slc_tup, slc_lst, slc_scr, end_t, end_f, ty_app, ty_pop, ty_ext, ty_getK, ty_getT, ok_int, ok_str, ok_non, isNop, and_assoc, at_0, at_1, at_2, at_3, wipeD, de_lev, lx]
  have a3 : biD .sum [deref h (.lst (levs.map fun lv => D.int lv.length))] = some (.int (levs.map fun lv => (lv.length : Int)).sum) := sum_map (fun lv : List Sta => (lv.length : Int)) levs
  rw [if_neg (by decide), wl_nil]
  refine ⟨_, a3, ?_⟩
  have bs := sum_le levs fun lv hm => by
    obtain ⟨i, hi⟩ := List.mem_iff_getElem?.mp hm
    exact (wf.lv i lv hi).2.1
  have bs2 : (levs.map fun lv => (lv.length : Int)).sum ≤ 2000 := by omega
  try simp [ws_nil, ws_pass, ws_brk, ws_cnt, ws_ret0, ws_cons, nxt_rt, nxt_bk, nxt_ct, ws_asg, ws_put, ws_expr, ws_ret, ws_ite, we_var, we_int, we_str, we_bl, we_non, we_nopart, we_gint, we_gfn, we_bin, we_neg, we_cmp, we_chain, we_andd, we_orr, we_one, we_nott, we_ite, wl_nil, wl_cons, we_tup, we_lst, we_dct, we_dsp, we_call, we_callv, we_bi, we_isi, isi_non, isi_bl, isi_int, isi_str, isi_tup, isi_lst, isi_dK, isi_dT, we_ix, we_slc, we_rev, we_me, we_frz, we_rng, wf_rt, wf_nx, wr_ok, wr_opt, wr_grd, wr_err, asgD, deref_int, deref_tup, deref_lst, deref_str, deref_bl, deref_non, deref_dK, deref_dT, deref_scr, deref_fn, isObj, bin_add, bin_addS, bin_addT, bin_addL, bin_sub, bin_mul, bin_mulL, bin_mulT, bin_fdiv, bin_mod, bin_pow, cmp_eq, cmp_ne, cmp_lt, cmp_le, cmp_gt, cmp_ge, cmp_isB, cmp_isnotB, cmp_is, cmp_isnot, cmp_inn, cmp_notin, eq_int, eq_str, eq_bl, tru_non, tru_bl, tru_int, tru_tup, tru_lst, tru_dK, ix_tup, ix_lst, ix_dK, ix_dT, bi_lenT, bi_lenL, bi_lenS, bi_int, bi_intB, bi_tupT, bi_tupL, bi_lisT, bi_lisL, bi_repr, bi_all, bi_any, bi_sum, bi_max, bi_min, bi_abs, bi_gcd, in_lst, in_tup, in_dK, in_dT, get_dKi, get_dKs, get_dTt, put_dKi, put_dKs, put_dTt, put_lst, key_int, key_str, keys_nil, keys_cons, slc_tup, slc_lst, slc_scr, end_t, end_f, ty_app, ty_pop, ty_ext, ty_getK, ty_getT, ok_int, ok_str, ok_non, isNop, and_assoc, at_0, at_1, at_2, at_3, bs2]
  exact wr_fin rfl take_self w
def toldR (levs : List (List Sta)) (w : List Nat) (v : D) : D := .tup [v, .int ((walk levs 0 0 w).2 : Nat)]
theorem c_told_byW {u : List Nat} {v wd : D} (dw : ∀ h, deref h wd = wd) (iw : ∀ (i m : Nat), u[i]? = some m → ixD wd (.int i) = some (.int m)) (wf : WfM sizes levs) (hu : RW sizes 0 u) (hl : levs.length ≤ u.length + 1) (ht : stAt levs (walk levs 0 0 u).2 (walk levs 0 0 u).1 = .told v) (w : Q (toldR levs u v) h) :
    Wc (callF prg (k + 1)) 21 [macD sizes levs, wd] h Q := by
  have L2 := wf.l2
  obtain ⟨lv0, e1, e2⟩ := (Pos.first wf).st
  have okr : D.okR h.length (toldR levs u v) = true := by
    have p := (walk_pos wf u 0 0 (Pos.first wf) hu).1
    rw [Nat.zero_add] at p
    have ok := p.ok wf
    rw [ht] at ok
    show (D.okR h.length v && (true && true)) = true
    rw [IsV.ok ok]; rfl
  have i0 : ixD (levsD levs) (.int 0) = some (levD lv0) := ix_levs (t := 0) e1
  have i1 : ixD (levD lv0) (.int 0) = some (stAt levs 0 0).d := ix_lev (n := 0) e2
  refine wc_at (fn := f_law_told_by) rfl rfl ?_
  try simp [ws_nil, ws_pass, ws_brk, ws_cnt, ws_ret0, ws_cons, nxt_rt, nxt_bk, nxt_ct, ws_asg, ws_put, ws_expr, ws_ret, ws_ite, we_var, we_int, we_str, we_bl, we_non, we_nopart, we_gint, we_gfn, we_bin, we_neg, we_cmp, we_chain, we_andd, we_orr, we_one, we_nott, we_ite, wl_nil, wl_cons, we_tup, we_lst, we_dct, we_dsp, we_call, we_callv, we_bi, we_isi, isi_non, isi_bl, isi_int, isi_str, isi_tup, isi_lst, isi_dK, isi_dT, we_ix, we_slc, we_rev, we_me, we_frz, we_rng, wf_rt, wf_nx, wr_ok, wr_opt, wr_grd, wr_err, asgD, deref_int, deref_tup, deref_lst, deref_str, deref_bl, deref_non, deref_dK, deref_dT, deref_scr, deref_fn, isObj, bin_add, bin_addS, bin_addT, bin_addL, bin_sub, bin_mul, bin_mulL, bin_mulT, bin_fdiv, bin_mod, bin_pow, cmp_eq, cmp_ne, cmp_lt, cmp_le, cmp_gt, cmp_ge, cmp_isB, cmp_isnotB, cmp_is, cmp_isnot, cmp_inn, cmp_notin, eq_int, eq_str, eq_bl, tru_non, tru_bl, tru_int, tru_tup, tru_lst, tru_dK, ix_tup, ix_lst, ix_dK, ix_dT, bi_lenT, bi_lenL, bi_lenS, bi_int, bi_intB, bi_tupT, bi_tupL, bi_lisT, bi_lisL, bi_repr, bi_all, bi_any, bi_sum, bi_max, bi_min, bi_abs, bi_gcd, in_lst, in_tup, in_dK, in_dT, get_dKi, get_dKs, get_dTt, put_dKi, put_dKs, put_dTt, put_lst, key_int, key_str, keys_nil, keys_cons, slc_tup, slc_lst, slc_scr, end_t, end_f, ty_app, ty_pop, ty_ext, ty_getK, ty_getT, ok_int, ok_str, ok_non, isNop, and_assoc, at_0, at_1, at_2, at_3, f_law_told_by, de_mac, de_levs, de_lev, ix_mac1, i0, i1, szL]
  rw [nxt_nx, ws_cons]
  refine ws_whil (I := fun m σ h' => ∃ c n', σ = [some (macD sizes levs), some wd, some (stAt levs c n').d, some (.int (c : Nat))] ∧ h' = h ∧ m = levs.length - c ∧ Pos levs c n' ∧ walk levs 0 0 u = ((walk levs c n' (u.drop c)).1, c + (walk levs c n' (u.drop c)).2)) levs.length (by unfold wfuel; omega) ⟨0, 0, rfl, rfl, rfl, Pos.first wf, by simp⟩ ?_
  rintro m σ h' ⟨c, n', rfl, rfl, rfl, p', ew⟩
  cases s' : stAt levs c n' with
  | told v' =>
    have e : walk levs 0 0 u = (n', c) := by rw [ew, walk_told s']; rfl
    rw [e] at ht
    rw [s'] at ht
    cases ht
    try simp [ws_nil, ws_pass, ws_brk, ws_cnt, ws_ret0, ws_cons, nxt_rt, nxt_bk, nxt_ct, ws_asg, ws_put, ws_expr, ws_ret, ws_ite, we_var, we_int, we_str, we_bl, we_non, we_nopart, we_gint, we_gfn, we_bin, we_neg, we_cmp, we_chain, we_andd, we_orr, we_one, we_nott, we_ite, wl_nil, wl_cons, we_tup, we_lst, we_dct, we_dsp, we_call, we_callv, we_bi, we_isi, isi_non, isi_bl, isi_int, isi_str, isi_tup, isi_lst, isi_dK, isi_dT, we_ix, we_slc, we_rev, we_me, we_frz, we_rng, wf_rt, wf_nx, wr_ok, wr_opt, wr_grd, wr_err, asgD, deref_int, deref_tup, deref_lst, deref_str, deref_bl, deref_non, deref_dK, deref_dT, deref_scr, deref_fn, isObj, bin_add, bin_addS, bin_addT, bin_addL, bin_sub, bin_mul, bin_mulL, bin_mulT, bin_fdiv, bin_mod, bin_pow, cmp_eq, cmp_ne, cmp_lt, cmp_le, cmp_gt, cmp_ge, cmp_isB, cmp_isnotB, cmp_is, cmp_isnot, cmp_inn, cmp_notin, eq_int, eq_str, eq_bl, tru_non, tru_bl, tru_int, tru_tup, tru_lst, tru_dK, ix_tup, ix_lst, ix_dK, ix_dT, bi_lenT, bi_lenL, bi_lenS, bi_int, bi_intB, bi_tupT, bi_tupL, bi_lisT, bi_lisL, bi_repr, bi_all, bi_any, bi_sum, bi_max, bi_min, bi_abs, bi_gcd, in_lst, in_tup, in_dK, in_dT, get_dKi, get_dKs, get_dTt, put_dKi, put_dKs, put_dTt, put_lst, key_int, key_str, keys_nil, keys_cons, slc_tup, slc_lst, slc_scr, end_t, end_f, ty_app, ty_pop, ty_ext, ty_getK, ty_getT, ok_int, ok_str, ok_non, isNop, and_assoc, at_0, at_1, at_2, at_3, de_sta, ix_told0, told_go]
    rw [nxt_nx]
    try simp [ws_nil, ws_pass, ws_brk, ws_cnt, ws_ret0, ws_cons, nxt_rt, nxt_bk, nxt_ct, ws_asg, ws_put, ws_expr, ws_ret, ws_ite, we_var, we_int, we_str, we_bl, we_non, we_nopart, we_gint, we_gfn, we_bin, we_neg, we_cmp, we_chain, we_andd, we_orr, we_one, we_nott, we_ite, wl_nil, wl_cons, we_tup, we_lst, we_dct, we_dsp, we_call, we_callv, we_bi, we_isi, isi_non, isi_bl, isi_int, isi_str, isi_tup, isi_lst, isi_dK, isi_dT, we_ix, we_slc, we_rev, we_me, we_frz, we_rng, wf_rt, wf_nx, wr_ok, wr_opt, wr_grd, wr_err, asgD, deref_int, deref_tup, deref_lst, deref_str, deref_bl, deref_non, deref_dK, deref_dT, deref_scr, deref_fn, isObj, bin_add, bin_addS, bin_addT, bin_addL, bin_sub, bin_mul, bin_mulL, bin_mulT, bin_fdiv, bin_mod, bin_pow, cmp_eq, cmp_ne, cmp_lt, cmp_le, cmp_gt, cmp_ge, cmp_isB, cmp_isnotB, cmp_is, cmp_isnot, cmp_inn, cmp_notin, eq_int, eq_str, eq_bl, tru_non, tru_bl, tru_int, tru_tup, tru_lst, tru_dK, ix_tup, ix_lst, ix_dK, ix_dT, bi_lenT, bi_lenL, bi_lenS, bi_int, bi_intB, bi_tupT, bi_tupL, bi_lisT, bi_lisL, bi_repr, bi_all, bi_any, bi_sum, bi_max, bi_min, bi_abs, bi_gcd, in_lst, in_tup, in_dK, in_dT, get_dKi, get_dKs, get_dTt, put_dKi, put_dKs, put_dTt, put_lst, key_int, key_str, keys_nil, keys_cons, slc_tup, slc_lst, slc_scr, end_t, end_f, ty_app, ty_pop, ty_ext, ty_getK, ty_getT, ok_int, ok_str, ok_non, isNop, and_assoc, at_0, at_1, at_2, at_3, de_sta, ix_told1, szL]
    unfold toldR at okr w
    rw [e] at okr w
    exact wr_fin okr take_self w
  | go l' =>
    have g := p'.goes wf s'
    have c1 : c < u.length := by omega
    have hg : u[c]? = some u[c] := List.getElem?_eq_getElem c1
    have hd : u[c] < sizes.getD (c % sizes.length) 0 := by have := hu c _ hg; rwa [Nat.zero_add] at this
    obtain ⟨e3, p2⟩ := p'.next wf s' hd
    obtain ⟨lv, f1, f2⟩ := p2.st
    generalize hnn : l'.getD u[c] 0 = nn at *
    have j0 : ixD (levsD levs) (.int ((c : Int) + 1)) = some (levD lv) := by have := ix_levs (t := c + 1) f1; simpa using this
    try simp [ws_nil, ws_pass, ws_brk, ws_cnt, ws_ret0, ws_cons, nxt_rt, nxt_bk, nxt_ct, ws_asg, ws_put, ws_expr, ws_ret, ws_ite, we_var, we_int, we_str, we_bl, we_non, we_nopart, we_gint, we_gfn, we_bin, we_neg, we_cmp, we_chain, we_andd, we_orr, we_one, we_nott, we_ite, wl_nil, wl_cons, we_tup, we_lst, we_dct, we_dsp, we_call, we_callv, we_bi, we_isi, isi_non, isi_bl, isi_int, isi_str, isi_tup, isi_lst, isi_dK, isi_dT, we_ix, we_slc, we_rev, we_me, we_frz, we_rng, wf_rt, wf_nx, wr_ok, wr_opt, wr_grd, wr_err, asgD, deref_int, deref_tup, deref_lst, deref_str, deref_bl, deref_non, deref_dK, deref_dT, deref_scr, deref_fn, isObj, bin_add, bin_addS, bin_addT, bin_addL, bin_sub, bin_mul, bin_mulL, bin_mulT, bin_fdiv, bin_mod, bin_pow, cmp_eq, cmp_ne, cmp_lt, cmp_le, cmp_gt, cmp_ge, cmp_isB, cmp_isnotB, cmp_is, cmp_isnot, cmp_inn, cmp_notin, eq_int, eq_str, eq_bl, tru_non, tru_bl, tru_int, tru_tup, tru_lst, tru_dK, ix_tup, ix_lst, ix_dK, ix_dT, bi_lenT, bi_lenL, bi_lenS, bi_int, bi_intB, bi_tupT, bi_tupL, bi_lisT, bi_lisL, bi_repr, bi_all, bi_any, bi_sum, bi_max, bi_min, bi_abs, bi_gcd, in_lst, in_tup, in_dK, in_dT, get_dKi, get_dKs, get_dTt, put_dKi, put_dKs, put_dTt, put_lst, key_int, key_str, keys_nil, keys_cons, slc_tup, slc_lst, slc_scr, end_t, end_f, ty_app, ty_pop, ty_ext, ty_getK, ty_getT, ok_int, ok_str, ok_non, isNop, and_assoc, at_0, at_1, at_2, at_3, de_sta, ix_go0]
    refine ⟨by have := p'.lt; omega, ?_⟩
    try simp [ws_nil, ws_pass, ws_brk, ws_cnt, ws_ret0, ws_cons, nxt_rt, nxt_bk, nxt_ct, ws_asg, ws_put, ws_expr, ws_ret, ws_ite, we_var, we_int, we_str, we_bl, we_non, we_nopart, we_gint, we_gfn, we_bin, we_neg, we_cmp, we_chain, we_andd, we_orr, we_one, we_nott, we_ite, wl_nil, wl_cons, we_tup, we_lst, we_dct, we_dsp, we_call, we_callv, we_bi, we_isi, isi_non, isi_bl, isi_int, isi_str, isi_tup, isi_lst, isi_dK, isi_dT, we_ix, we_slc, we_rev, we_me, we_frz, we_rng, wf_rt, wf_nx, wr_ok, wr_opt, wr_grd, wr_err, asgD, deref_int, deref_tup, deref_lst, deref_str, deref_bl, deref_non, deref_dK, deref_dT, deref_scr, deref_fn, isObj, bin_add, bin_addS, bin_addT, bin_addL, bin_sub, bin_mul, bin_mulL, bin_mulT, bin_fdiv, bin_mod, bin_pow, cmp_eq, cmp_ne, cmp_lt, cmp_le, cmp_gt, cmp_ge, cmp_isB, cmp_isnotB, cmp_is, cmp_isnot, cmp_inn, cmp_notin, eq_int, eq_str, eq_bl, tru_non, tru_bl, tru_int, tru_tup, tru_lst, tru_dK, ix_tup, ix_lst, ix_dK, ix_dT, bi_lenT, bi_lenL, bi_lenS, bi_int, bi_intB, bi_tupT, bi_tupL, bi_lisT, bi_lisL, bi_repr, bi_all, bi_any, bi_sum, bi_max, bi_min, bi_abs, bi_gcd, in_lst, in_tup, in_dK, in_dT, get_dKi, get_dKs, get_dTt, put_dKi, put_dKs, put_dTt, put_lst, key_int, key_str, keys_nil, keys_cons, slc_tup, slc_lst, slc_scr, end_t, end_f, ty_app, ty_pop, ty_ext, ty_getK, ty_getT, ok_int, ok_str, ok_non, isNop, and_assoc, at_0, at_1, at_2, at_3, de_mac, de_levs, de_lev, de_sta, de_nats, dw, ix_mac1, j0, ix_go1, iw _ _ hg, ix_nats e3, ix_lev f2, szL]
    rw [nxt_nx, ws_nil]
    refine ⟨c + 1, _, rfl, rfl, by omega, p2, ?_⟩
    rw [ew, List.drop_eq_getElem_cons c1, walk_go s', hnn]
    refine Prod.ext rfl ?_
    show c + ((walk levs (c + 1) nn (u.drop (c + 1))).2 + 1) = c + 1 + (walk levs (c + 1) nn (u.drop (c + 1))).2
    omega
theorem c_told_by {u : List Nat} {v : D} (wf : WfM sizes levs) (hu : RW sizes 0 u) (hl : levs.length ≤ u.length + 1) (ht : stAt levs (walk levs 0 0 u).2 (walk levs 0 0 u).1 = .told v) (w : Q (toldR levs u v) h) :
    Wc (callF prg (k + 1)) 21 [macD sizes levs, natsD u] h Q := c_told_byW (fun _ => de_nats) (fun _ _ e => ix_nats e) wf hu hl ht w
theorem c_told_byL {u : List Nat} {v : D} (wf : WfM sizes levs) (hu : RW sizes 0 u) (hl : levs.length ≤ u.length + 1) (ht : stAt levs (walk levs 0 0 u).2 (walk levs 0 0 u).1 = .told v) (w : Q (toldR levs u v) h) :
    Wc (callF prg (k + 1)) 21 [macD sizes levs, .lst (u.map fun (n : Nat) => D.int n)] h Q := c_told_byW (fun _ => rfl) (fun _ _ e => at_nat (by rw [List.getElem?_map, e]; rfl)) wf hu hl ht w
end
end Lw
/-! k59: rows; a word read one by one and at once. -/
namespace Lw
open Mi
abbrev Row := List Nat × List Nat
def rowD (r : Row) : D := .tup [natsD r.1, natsD r.2]
def rowsD (l : List Row) : D := .tup (l.map rowD)
def entry (r : Row) (i : Nat) : Nat := if i < r.1.length then r.1.getD i 0 else r.2.getD ((i - r.1.length) % r.2.length) 0
/-- right rows -/
structure WfR (sizes : List Nat) (rows : List Row) : Prop where
  len : rows.length = sizes.length
  ok : ∀ (j : Nat) (r : Row), rows[j]? = some r → 0 < r.2.length ∧ ∀ d, d ∈ r.1 ∨ d ∈ r.2 → d < sizes.getD j 0
def rowWord (sizes : List Nat) (levs : List (List Sta)) (rows : List Row) : List Nat := (List.range levs.length).map fun t => entry (rows.getD (t % sizes.length) ([], [])) (t / sizes.length)
theorem entry_lt {sizes : List Nat} {rows : List Row} {j : Nat} {r : Row} (wr : WfR sizes rows) (h : rows[j]? = some r) (i : Nat) : entry r i < sizes.getD j 0 := by
  obtain ⟨h1, h2⟩ := wr.ok j r h
  unfold entry
  by_cases c : i < r.1.length
  · rw [if_pos c, getD_some (List.getElem?_eq_getElem c)]
    exact h2 _ (.inl (List.getElem_mem c))
  · rw [if_neg c, getD_some (List.getElem?_eq_getElem (Nat.mod_lt _ h1))]
    exact h2 _ (.inr (List.getElem_mem _))
section
variable {k t n : Nat} {sizes : List Nat} {levs : List (List Sta)} {rows : List Row} {h : MH} {Q : D → MH → Prop}
theorem WfR.at (wf : WfM sizes levs) (wr : WfR sizes rows) (t : Nat) : rows[t % sizes.length]? = some (rows.getD (t % sizes.length) ([], [])) := by
  have hm : t % sizes.length < rows.length := by rw [wr.len]; exact Nat.mod_lt t wf.s1
  rw [List.getElem?_eq_getElem hm, getD_some (List.getElem?_eq_getElem hm)]
theorem rowWord_ok (wf : WfM sizes levs) (wr : WfR sizes rows) : RW sizes 0 (rowWord sizes levs rows) := fun i d e => by
  unfold rowWord at e
  rw [List.getElem?_map] at e
  by_cases hi : i < levs.length
  · rw [List.getElem?_range hi] at e
    have e' := Option.some.inj e
    rw [← e', Nat.zero_add]
    exact entry_lt wr (wr.at wf i) _
  · rw [List.getElem?_eq_none (by simp; omega)] at e
    cases e
theorem de_rows : deref h (rowsD rows) = rowsD rows := rfl
theorem ix_rows {j : Nat} {r : Row} (e : rows[j]? = some r) : ixD (rowsD rows) (.int j) = some (rowD r) := at_nat (by rw [List.getElem?_map, e]; rfl)
theorem c_entry {r : Row} {i : Nat} (hr : 0 < r.2.length) (w : Q (.int (entry r i : Nat)) h) : Wc (callF prg (k + 1)) 0 [rowD r, .int i] h Q := c_told hr w
theorem c_lentry {r : Row} {i : Nat} (hr : 0 < r.2.length) (w : Q (.int (entry r i : Nat)) h) : Wc (callF prg (k + 1)) 18 [rowD r, .int i] h Q := by
  have get : ∀ {l : List Nat} {i : Nat}, i < l.length → ixD (natsD l) (.int i) = some (.int (l.getD i 0 : Nat)) := fun {l i} h => ix_nats (by rw [List.getElem?_eq_getElem h, getD_some (List.getElem?_eq_getElem h)])
  refine wc_at (fn := f_law_told_entry) rfl rfl ?_
  simp [ws_nil, ws_pass, ws_brk, ws_cnt, ws_ret0, ws_cons, nxt_rt, nxt_bk, nxt_ct, ws_asg, ws_put, ws_expr, ws_ret, ws_ite, we_var, we_int, we_str, we_bl, we_non, we_nopart, we_gint, we_gfn, we_bin, we_neg, we_cmp, we_chain, we_andd, we_orr, we_one, we_nott, we_ite, wl_nil, wl_cons, we_tup, we_lst, we_dct, we_dsp, we_call, we_callv, we_bi, we_isi, isi_non, isi_bl, isi_int, isi_str, isi_tup, isi_lst, isi_dK, isi_dT, we_ix, we_slc, we_rev, we_me, we_frz, we_rng, wf_rt, wf_nx, wr_ok, wr_opt, wr_grd, wr_err, asgD, deref_int, deref_tup, deref_lst, deref_str, deref_bl, deref_non, deref_dK, deref_dT, deref_scr, deref_fn, isObj, bin_add, bin_addS, bin_addT, bin_addL, bin_sub, bin_mul, bin_mulL, bin_mulT, bin_fdiv, bin_mod, bin_pow, cmp_eq, cmp_ne, cmp_lt, cmp_le, cmp_gt, cmp_ge, cmp_isB, cmp_isnotB, cmp_is, cmp_isnot, cmp_inn, cmp_notin, eq_int, eq_str, eq_bl, tru_non, tru_bl, tru_int, tru_tup, tru_lst, tru_dK, ix_tup, ix_lst, ix_dK, ix_dT, bi_lenT, bi_lenL, bi_lenS, bi_int, bi_intB, bi_tupT, bi_tupL, bi_lisT, bi_lisL, bi_repr, bi_all, bi_any, bi_sum, bi_max, bi_min, bi_abs, bi_gcd, in_lst, in_tup, in_dK, in_dT, get_dKi, get_dKs, get_dTt, put_dKi, put_dKs, put_dTt, put_lst, key_int, key_str, keys_nil, keys_cons, slc_tup, slc_lst, slc_scr, end_t, end_f, ty_app, ty_pop, ty_ext, ty_getK, ty_getT, ok_int, ok_str, ok_non, isNop, and_assoc, at_0, at_1, at_2, at_3, f_law_told_entry, rowD, szL]
  rw [nxt_nx]
  unfold entry at w
  by_cases hi : i < r.1.length
  · have hi2 : ¬ r.1.length ≤ i := by omega
    rw [if_pos hi] at w
    have g := get hi
    generalize r.1.getD i 0 = nn at *
    simp [ws_nil, ws_pass, ws_brk, ws_cnt, ws_ret0, ws_cons, nxt_rt, nxt_bk, nxt_ct, ws_asg, ws_put, ws_expr, ws_ret, ws_ite, we_var, we_int, we_str, we_bl, we_non, we_nopart, we_gint, we_gfn, we_bin, we_neg, we_cmp, we_chain, we_andd, we_orr, we_one, we_nott, we_ite, wl_nil, wl_cons, we_tup, we_lst, we_dct, we_dsp, we_call, we_callv, we_bi, we_isi, isi_non, isi_bl, isi_int, isi_str, isi_tup, isi_lst, isi_dK, isi_dT, we_ix, we_slc, we_rev, we_me, we_frz, we_rng, wf_rt, wf_nx, wr_ok, wr_opt, wr_grd, wr_err, asgD, deref_int, deref_tup, deref_lst, deref_str, deref_bl, deref_non, deref_dK, deref_dT, deref_scr, deref_fn, isObj, bin_add, bin_addS, bin_addT, bin_addL, bin_sub, bin_mul, bin_mulL, bin_mulT, bin_fdiv, bin_mod, bin_pow, cmp_eq, cmp_ne, cmp_lt, cmp_le, cmp_gt, cmp_ge, cmp_isB, cmp_isnotB, cmp_is, cmp_isnot, cmp_inn, cmp_notin, eq_int, eq_str, eq_bl, tru_non, tru_bl, tru_int, tru_tup, tru_lst, tru_dK, ix_tup, ix_lst, ix_dK, ix_dT, bi_lenT, bi_lenL, bi_lenS, bi_int, bi_intB, bi_tupT, bi_tupL, bi_lisT, bi_lisL, bi_repr, bi_all, bi_any, bi_sum, bi_max, bi_min, bi_abs, bi_gcd, in_lst, in_tup, in_dK, in_dT, get_dKi, get_dKs, get_dTt, put_dKi, put_dKs, put_dTt, put_lst, key_int, key_str, keys_nil, keys_cons, slc_tup, slc_lst, slc_scr, end_t, end_f, ty_app, ty_pop, ty_ext, ty_getK, ty_getT, ok_int, ok_str, ok_non, isNop, and_assoc, at_0, at_1, at_2, at_3, de_nats, len_nats, hi, hi2, g]
    exact wr_fin rfl take_self w
  · have hi2 : r.1.length ≤ i := by omega
    have e : ((i : Int) - (r.1.length : Int)) = ((i - r.1.length : Nat) : Int) := by omega
    have e2 : ((i - r.1.length : Nat) : Int) % (r.2.length : Int) = (((i - r.1.length) % r.2.length : Nat) : Int) := by simp
    have g := get (Nat.mod_lt (i - r.1.length) hr)
    rw [if_neg hi] at w
    generalize r.2.getD ((i - r.1.length) % r.2.length) 0 = nn at *
    have g' : ixD (natsD r.2) (.int (((i - r.1.length : Nat) : Int) % (r.2.length : Int))) = some (.int nn) := by rw [e2]; exact g
    simp [ws_nil, ws_pass, ws_brk, ws_cnt, ws_ret0, ws_cons, nxt_rt, nxt_bk, nxt_ct, ws_asg, ws_put, ws_expr, ws_ret, ws_ite, we_var, we_int, we_str, we_bl, we_non, we_nopart, we_gint, we_gfn, we_bin, we_neg, we_cmp, we_chain, we_andd, we_orr, we_one, we_nott, we_ite, wl_nil, wl_cons, we_tup, we_lst, we_dct, we_dsp, we_call, we_callv, we_bi, we_isi, isi_non, isi_bl, isi_int, isi_str, isi_tup, isi_lst, isi_dK, isi_dT, we_ix, we_slc, we_rev, we_me, we_frz, we_rng, wf_rt, wf_nx, wr_ok, wr_opt, wr_grd, wr_err, asgD, deref_int, deref_tup, deref_lst, deref_str, deref_bl, deref_non, deref_dK, deref_dT, deref_scr, deref_fn, isObj, bin_add, bin_addS, bin_addT, bin_addL, bin_sub, bin_mul, bin_mulL, bin_mulT, bin_fdiv, bin_mod, bin_pow, cmp_eq, cmp_ne, cmp_lt, cmp_le, cmp_gt, cmp_ge, cmp_isB, cmp_isnotB, cmp_is, cmp_isnot, cmp_inn, cmp_notin, eq_int, eq_str, eq_bl, tru_non, tru_bl, tru_int, tru_tup, tru_lst, tru_dK, ix_tup, ix_lst, ix_dK, ix_dT, bi_lenT, bi_lenL, bi_lenS, bi_int, bi_intB, bi_tupT, bi_tupL, bi_lisT, bi_lisL, bi_repr, bi_all, bi_any, bi_sum, bi_max, bi_min, bi_abs, bi_gcd, in_lst, in_tup, in_dK, in_dT, get_dKi, get_dKs, get_dTt, put_dKi, put_dKs, put_dTt, put_lst, key_int, key_str, keys_nil, keys_cons, slc_tup, slc_lst, slc_scr, end_t, end_f, ty_app, ty_pop, ty_ext, ty_getK, ty_getT, ok_int, ok_str, ok_non, isNop, and_assoc, at_0, at_1, at_2, at_3, de_nats, len_nats, hi, hi2, e, hr, g']
    exact wr_fin rfl take_self w
theorem c_run_on {v : D} (wf : WfM sizes levs) (wr : WfR sizes rows) (ht : stAt levs (walk levs 0 0 (rowWord sizes levs rows)).2 (walk levs 0 0 (rowWord sizes levs rows)).1 = .told v) (w : Q (toldR levs (rowWord sizes levs rows) v) h) :
    Wc (callF prg (k + 2)) 9 [macD sizes levs, rowsD rows] h Q := by
  have L2 := wf.l2
  have hu := rowWord_ok wf wr
  have ul : (rowWord sizes levs rows).length = levs.length := by unfold rowWord; simp
  have ua : ∀ c, c < levs.length → (rowWord sizes levs rows)[c]? = some (entry (rows.getD (c % sizes.length) ([], [])) (c / sizes.length)) := fun c hc => by
    unfold rowWord; rw [List.getElem?_map, List.getElem?_range hc]; rfl
  generalize hU : rowWord sizes levs rows = u at *
  obtain ⟨lv0, e1, e2⟩ := (Pos.first wf).st
  have okr : D.okR h.length (toldR levs u v) = true := by
    have p := (walk_pos wf u 0 0 (Pos.first wf) hu).1
    rw [Nat.zero_add] at p
    have ok := p.ok wf
    rw [ht] at ok
    show (D.okR h.length v && (true && true)) = true
    rw [IsV.ok ok]; rfl
  have i0 : ixD (levsD levs) (.int 0) = some (levD lv0) := ix_levs (t := 0) e1
  have i1 : ixD (levD lv0) (.int 0) = some (stAt levs 0 0).d := ix_lev (n := 0) e2
  refine wc_at (fn := f_run_on) rfl rfl ?_
  show Ws _ (.cons _ _) _ _ _
  rw [ws_cons]
  simp [ws_nil, ws_pass, ws_brk, ws_cnt, ws_ret0, ws_cons, nxt_rt, nxt_bk, nxt_ct, ws_asg, ws_put, ws_expr, ws_ret, ws_ite, we_var, we_int, we_str, we_bl, we_non, we_nopart, we_gint, we_gfn, we_bin, we_neg, we_cmp, we_chain, we_andd, we_orr, we_one, we_nott, we_ite, wl_nil, wl_cons, we_tup, we_lst, we_dct, we_dsp, we_call, we_callv, we_bi, we_isi, isi_non, isi_bl, isi_int, isi_str, isi_tup, isi_lst, isi_dK, isi_dT, we_ix, we_slc, we_rev, we_me, we_frz, we_rng, wf_rt, wf_nx, wr_ok, wr_opt, wr_grd, wr_err, asgD, deref_int, deref_tup, deref_lst, deref_str, deref_bl, deref_non, deref_dK, deref_dT, deref_scr, deref_fn, isObj, bin_add, bin_addS, bin_addT, bin_addL, bin_sub, bin_mul, bin_mulL, bin_mulT, bin_fdiv, bin_mod, bin_pow, cmp_eq, cmp_ne, cmp_lt, cmp_le, cmp_gt, cmp_ge, cmp_isB, cmp_isnotB, cmp_is, cmp_isnot, cmp_inn, cmp_notin, eq_int, eq_str, eq_bl, tru_non, tru_bl, tru_int, tru_tup, tru_lst, tru_dK, ix_tup, ix_lst, ix_dK, ix_dT, bi_lenT, bi_lenL, bi_lenS, bi_int, bi_intB, bi_tupT, bi_tupL, bi_lisT, bi_lisL, bi_repr, bi_all, bi_any, bi_sum, bi_max, bi_min, bi_abs, bi_gcd, in_lst, in_tup, in_dK, in_dT, get_dKi, get_dKs, get_dTt, put_dKi, put_dKs, put_dTt, put_lst, key_int, key_str, keys_nil, keys_cons, slc_tup, slc_lst, slc_scr, end_t, end_f, ty_app, ty_pop, ty_ext, ty_getK, ty_getT, ok_int, ok_str, ok_non, isNop, and_assoc, at_0, at_1, at_2, at_3, f_run_on, macD]
  rw [nxt_nx]
  simp [ws_nil, ws_pass, ws_brk, ws_cnt, ws_ret0, ws_cons, nxt_rt, nxt_bk, nxt_ct, ws_asg, ws_put, ws_expr, ws_ret, ws_ite, we_var, we_int, we_str, we_bl, we_non, we_nopart, we_gint, we_gfn, we_bin, we_neg, we_cmp, we_chain, we_andd, we_orr, we_one, we_nott, we_ite, wl_nil, wl_cons, we_tup, we_lst, we_dct, we_dsp, we_call, we_callv, we_bi, we_isi, isi_non, isi_bl, isi_int, isi_str, isi_tup, isi_lst, isi_dK, isi_dT, we_ix, we_slc, we_rev, we_me, we_frz, we_rng, wf_rt, wf_nx, wr_ok, wr_opt, wr_grd, wr_err, asgD, deref_int, deref_tup, deref_lst, deref_str, deref_bl, deref_non, deref_dK, deref_dT, deref_scr, deref_fn, isObj, bin_add, bin_addS, bin_addT, bin_addL, bin_sub, bin_mul, bin_mulL, bin_mulT, bin_fdiv, bin_mod, bin_pow, cmp_eq, cmp_ne, cmp_lt, cmp_le, cmp_gt, cmp_ge, cmp_isB, cmp_isnotB, cmp_is, cmp_isnot, cmp_inn, cmp_notin, eq_int, eq_str, eq_bl, tru_non, tru_bl, tru_int, tru_tup, tru_lst, tru_dK, ix_tup, ix_lst, ix_dK, ix_dT, bi_lenT, bi_lenL, bi_lenS, bi_int, bi_intB, bi_tupT, bi_tupL, bi_lisT, bi_lisL, bi_repr, bi_all, bi_any, bi_sum, bi_max, bi_min, bi_abs, bi_gcd, in_lst, in_tup, in_dK, in_dT, get_dKi, get_dKs, get_dTt, put_dKi, put_dKs, put_dTt, put_lst, key_int, key_str, keys_nil, keys_cons, slc_tup, slc_lst, slc_scr, end_t, end_f, ty_app, ty_pop, ty_ext, ty_getK, ty_getT, ok_int, ok_str, ok_non, isNop, and_assoc, at_0, at_1, at_2, at_3, de_levs, i0, i1, de_lev, szL]
  rw [nxt_nx, ws_cons]
  refine ws_whil (I := fun m σ h' => ∃ c n' x y, σ = [some (macD sizes levs), some (rowsD rows), some (natsD sizes), some (levsD levs), some (.int (c : Nat)), some (stAt levs c n').d, x, y] ∧ h' = h ∧ m = levs.length - c ∧ Pos levs c n' ∧ walk levs 0 0 u = ((walk levs c n' (u.drop c)).1, c + (walk levs c n' (u.drop c)).2)) levs.length (by unfold wfuel; omega) ⟨0, 0, none, none, rfl, rfl, rfl, Pos.first wf, by simp⟩ ?_
  rintro m σ h' ⟨c, n', x, y, rfl, rfl, rfl, p', ew⟩
  cases s' : stAt levs c n' with
  | told v' =>
    have e : walk levs 0 0 u = (n', c) := by rw [ew, walk_told s']; rfl
    rw [e] at ht
    rw [s'] at ht
    cases ht
    simp [ws_nil, ws_pass, ws_brk, ws_cnt, ws_ret0, ws_cons, nxt_rt, nxt_bk, nxt_ct, ws_asg, ws_put, ws_expr, ws_ret, ws_ite, we_var, we_int, we_str, we_bl, we_non, we_nopart, we_gint, we_gfn, we_bin, we_neg, we_cmp, we_chain, we_andd, we_orr, we_one, we_nott, we_ite, wl_nil, wl_cons, we_tup, we_lst, we_dct, we_dsp, we_call, we_callv, we_bi, we_isi, isi_non, isi_bl, isi_int, isi_str, isi_tup, isi_lst, isi_dK, isi_dT, we_ix, we_slc, we_rev, we_me, we_frz, we_rng, wf_rt, wf_nx, wr_ok, wr_opt, wr_grd, wr_err, asgD, deref_int, deref_tup, deref_lst, deref_str, deref_bl, deref_non, deref_dK, deref_dT, deref_scr, deref_fn, isObj, bin_add, bin_addS, bin_addT, bin_addL, bin_sub, bin_mul, bin_mulL, bin_mulT, bin_fdiv, bin_mod, bin_pow, cmp_eq, cmp_ne, cmp_lt, cmp_le, cmp_gt, cmp_ge, cmp_isB, cmp_isnotB, cmp_is, cmp_isnot, cmp_inn, cmp_notin, eq_int, eq_str, eq_bl, tru_non, tru_bl, tru_int, tru_tup, tru_lst, tru_dK, ix_tup, ix_lst, ix_dK, ix_dT, bi_lenT, bi_lenL, bi_lenS, bi_int, bi_intB, bi_tupT, bi_tupL, bi_lisT, bi_lisL, bi_repr, bi_all, bi_any, bi_sum, bi_max, bi_min, bi_abs, bi_gcd, in_lst, in_tup, in_dK, in_dT, get_dKi, get_dKs, get_dTt, put_dKi, put_dKs, put_dTt, put_lst, key_int, key_str, keys_nil, keys_cons, slc_tup, slc_lst, slc_scr, end_t, end_f, ty_app, ty_pop, ty_ext, ty_getK, ty_getT, ok_int, ok_str, ok_non, isNop, and_assoc, at_0, at_1, at_2, at_3, de_sta, ix_told0, told_go]
    rw [nxt_nx]
    simp [ws_nil, ws_pass, ws_brk, ws_cnt, ws_ret0, ws_cons, nxt_rt, nxt_bk, nxt_ct, ws_asg, ws_put, ws_expr, ws_ret, ws_ite, we_var, we_int, we_str, we_bl, we_non, we_nopart, we_gint, we_gfn, we_bin, we_neg, we_cmp, we_chain, we_andd, we_orr, we_one, we_nott, we_ite, wl_nil, wl_cons, we_tup, we_lst, we_dct, we_dsp, we_call, we_callv, we_bi, we_isi, isi_non, isi_bl, isi_int, isi_str, isi_tup, isi_lst, isi_dK, isi_dT, we_ix, we_slc, we_rev, we_me, we_frz, we_rng, wf_rt, wf_nx, wr_ok, wr_opt, wr_grd, wr_err, asgD, deref_int, deref_tup, deref_lst, deref_str, deref_bl, deref_non, deref_dK, deref_dT, deref_scr, deref_fn, isObj, bin_add, bin_addS, bin_addT, bin_addL, bin_sub, bin_mul, bin_mulL, bin_mulT, bin_fdiv, bin_mod, bin_pow, cmp_eq, cmp_ne, cmp_lt, cmp_le, cmp_gt, cmp_ge, cmp_isB, cmp_isnotB, cmp_is, cmp_isnot, cmp_inn, cmp_notin, eq_int, eq_str, eq_bl, tru_non, tru_bl, tru_int, tru_tup, tru_lst, tru_dK, ix_tup, ix_lst, ix_dK, ix_dT, bi_lenT, bi_lenL, bi_lenS, bi_int, bi_intB, bi_tupT, bi_tupL, bi_lisT, bi_lisL, bi_repr, bi_all, bi_any, bi_sum, bi_max, bi_min, bi_abs, bi_gcd, in_lst, in_tup, in_dK, in_dT, get_dKi, get_dKs, get_dTt, put_dKi, put_dKs, put_dTt, put_lst, key_int, key_str, keys_nil, keys_cons, slc_tup, slc_lst, slc_scr, end_t, end_f, ty_app, ty_pop, ty_ext, ty_getK, ty_getT, ok_int, ok_str, ok_non, isNop, and_assoc, at_0, at_1, at_2, at_3, de_sta, ix_told1, szL]
    unfold toldR at okr w
    rw [e] at okr w
    exact wr_fin okr take_self w
  | go l' =>
    have g := p'.goes wf s'
    have c1 : c < u.length := by omega
    have hg := ua c (by omega)
    have hg2 : u[c]? = some u[c] := List.getElem?_eq_getElem c1
    have hgg : u[c] = entry (rows.getD (c % sizes.length) ([], [])) (c / sizes.length) := by rw [hg2] at hg; exact Option.some.inj hg
    have hd : u[c] < sizes.getD (c % sizes.length) 0 := by have := hu c _ hg2; rwa [Nat.zero_add] at this
    obtain ⟨e3, p2⟩ := p'.next wf s' hd
    obtain ⟨lv, f1, f2⟩ := p2.st
    have ar := wr.at wf c
    have okr := (wr.ok _ _ ar).1
    generalize hnn : l'.getD u[c] 0 = nn at *
    generalize hrr : rows.getD (c % sizes.length) ([], []) = rr at *
    have j0 : ixD (levsD levs) (.int ((c : Int) + 1)) = some (levD lv) := by have := ix_levs (t := c + 1) f1; simpa using this
    simp [ws_nil, ws_pass, ws_brk, ws_cnt, ws_ret0, ws_cons, nxt_rt, nxt_bk, nxt_ct, ws_asg, ws_put, ws_expr, ws_ret, ws_ite, we_var, we_int, we_str, we_bl, we_non, we_nopart, we_gint, we_gfn, we_bin, we_neg, we_cmp, we_chain, we_andd, we_orr, we_one, we_nott, we_ite, wl_nil, wl_cons, we_tup, we_lst, we_dct, we_dsp, we_call, we_callv, we_bi, we_isi, isi_non, isi_bl, isi_int, isi_str, isi_tup, isi_lst, isi_dK, isi_dT, we_ix, we_slc, we_rev, we_me, we_frz, we_rng, wf_rt, wf_nx, wr_ok, wr_opt, wr_grd, wr_err, asgD, deref_int, deref_tup, deref_lst, deref_str, deref_bl, deref_non, deref_dK, deref_dT, deref_scr, deref_fn, isObj, bin_add, bin_addS, bin_addT, bin_addL, bin_sub, bin_mul, bin_mulL, bin_mulT, bin_fdiv, bin_mod, bin_pow, cmp_eq, cmp_ne, cmp_lt, cmp_le, cmp_gt, cmp_ge, cmp_isB, cmp_isnotB, cmp_is, cmp_isnot, cmp_inn, cmp_notin, eq_int, eq_str, eq_bl, tru_non, tru_bl, tru_int, tru_tup, tru_lst, tru_dK, ix_tup, ix_lst, ix_dK, ix_dT, bi_lenT, bi_lenL, bi_lenS, bi_int, bi_intB, bi_tupT, bi_tupL, bi_lisT, bi_lisL, bi_repr, bi_all, bi_any, bi_sum, bi_max, bi_min, bi_abs, bi_gcd, in_lst, in_tup, in_dK, in_dT, get_dKi, get_dKs, get_dTt, put_dKi, put_dKs, put_dTt, put_lst, key_int, key_str, keys_nil, keys_cons, slc_tup, slc_lst, slc_scr, end_t, end_f, ty_app, ty_pop, ty_ext, ty_getK, ty_getT, ok_int, ok_str, ok_non, isNop, and_assoc, at_0, at_1, at_2, at_3, de_sta, ix_go0]
    refine ⟨by have := p'.lt; omega, ?_⟩
    refine c_place (L := 0) wf.s1 (by have := wf.s2; omega) ?_
    simp [ws_nil, ws_pass, ws_brk, ws_cnt, ws_ret0, ws_cons, nxt_rt, nxt_bk, nxt_ct, ws_asg, ws_put, ws_expr, ws_ret, ws_ite, we_var, we_int, we_str, we_bl, we_non, we_nopart, we_gint, we_gfn, we_bin, we_neg, we_cmp, we_chain, we_andd, we_orr, we_one, we_nott, we_ite, wl_nil, wl_cons, we_tup, we_lst, we_dct, we_dsp, we_call, we_callv, we_bi, we_isi, isi_non, isi_bl, isi_int, isi_str, isi_tup, isi_lst, isi_dK, isi_dT, we_ix, we_slc, we_rev, we_me, we_frz, we_rng, wf_rt, wf_nx, wr_ok, wr_opt, wr_grd, wr_err, asgD, deref_int, deref_tup, deref_lst, deref_str, deref_bl, deref_non, deref_dK, deref_dT, deref_scr, deref_fn, isObj, bin_add, bin_addS, bin_addT, bin_addL, bin_sub, bin_mul, bin_mulL, bin_mulT, bin_fdiv, bin_mod, bin_pow, cmp_eq, cmp_ne, cmp_lt, cmp_le, cmp_gt, cmp_ge, cmp_isB, cmp_isnotB, cmp_is, cmp_isnot, cmp_inn, cmp_notin, eq_int, eq_str, eq_bl, tru_non, tru_bl, tru_int, tru_tup, tru_lst, tru_dK, ix_tup, ix_lst, ix_dK, ix_dT, bi_lenT, bi_lenL, bi_lenS, bi_int, bi_intB, bi_tupT, bi_tupL, bi_lisT, bi_lisL, bi_repr, bi_all, bi_any, bi_sum, bi_max, bi_min, bi_abs, bi_gcd, in_lst, in_tup, in_dK, in_dT, get_dKi, get_dKs, get_dTt, put_dKi, put_dKs, put_dTt, put_lst, key_int, key_str, keys_nil, keys_cons, slc_tup, slc_lst, slc_scr, end_t, end_f, ty_app, ty_pop, ty_ext, ty_getK, ty_getT, ok_int, ok_str, ok_non, isNop, and_assoc, at_0, at_1, at_2, at_3]
    rw [nxt_nx]
    have ar' : ixD (rowsD rows) (.int ((c : Int) % (sizes.length : Int))) = some (rowD rr) := by
      have := ix_rows ar; simpa using this
    simp [ws_nil, ws_pass, ws_brk, ws_cnt, ws_ret0, ws_cons, nxt_rt, nxt_bk, nxt_ct, ws_asg, ws_put, ws_expr, ws_ret, ws_ite, we_var, we_int, we_str, we_bl, we_non, we_nopart, we_gint, we_gfn, we_bin, we_neg, we_cmp, we_chain, we_andd, we_orr, we_one, we_nott, we_ite, wl_nil, wl_cons, we_tup, we_lst, we_dct, we_dsp, we_call, we_callv, we_bi, we_isi, isi_non, isi_bl, isi_int, isi_str, isi_tup, isi_lst, isi_dK, isi_dT, we_ix, we_slc, we_rev, we_me, we_frz, we_rng, wf_rt, wf_nx, wr_ok, wr_opt, wr_grd, wr_err, asgD, deref_int, deref_tup, deref_lst, deref_str, deref_bl, deref_non, deref_dK, deref_dT, deref_scr, deref_fn, isObj, bin_add, bin_addS, bin_addT, bin_addL, bin_sub, bin_mul, bin_mulL, bin_mulT, bin_fdiv, bin_mod, bin_pow, cmp_eq, cmp_ne, cmp_lt, cmp_le, cmp_gt, cmp_ge, cmp_isB, cmp_isnotB, cmp_is, cmp_isnot, cmp_inn, cmp_notin, eq_int, eq_str, eq_bl, tru_non, tru_bl, tru_int, tru_tup, tru_lst, tru_dK, ix_tup, ix_lst, ix_dK, ix_dT, bi_lenT, bi_lenL, bi_lenS, bi_int, bi_intB, bi_tupT, bi_tupL, bi_lisT, bi_lisL, bi_repr, bi_all, bi_any, bi_sum, bi_max, bi_min, bi_abs, bi_gcd, in_lst, in_tup, in_dK, in_dT, get_dKi, get_dKs, get_dTt, put_dKi, put_dKs, put_dTt, put_lst, key_int, key_str, keys_nil, keys_cons, slc_tup, slc_lst, slc_scr, end_t, end_f, ty_app, ty_pop, ty_ext, ty_getK, ty_getT, ok_int, ok_str, ok_non, isNop, and_assoc, at_0, at_1, at_2, at_3, de_levs, j0, de_lev, de_sta, ix_go1, de_nats, de_rows, ar']
    rw [show (c : Int) / (sizes.length : Int) = ((c / sizes.length : Nat) : Int) by simp]
    refine c_entry okr ?_
    rw [← hgg]
    simp [ws_nil, ws_pass, ws_brk, ws_cnt, ws_ret0, ws_cons, nxt_rt, nxt_bk, nxt_ct, ws_asg, ws_put, ws_expr, ws_ret, ws_ite, we_var, we_int, we_str, we_bl, we_non, we_nopart, we_gint, we_gfn, we_bin, we_neg, we_cmp, we_chain, we_andd, we_orr, we_one, we_nott, we_ite, wl_nil, wl_cons, we_tup, we_lst, we_dct, we_dsp, we_call, we_callv, we_bi, we_isi, isi_non, isi_bl, isi_int, isi_str, isi_tup, isi_lst, isi_dK, isi_dT, we_ix, we_slc, we_rev, we_me, we_frz, we_rng, wf_rt, wf_nx, wr_ok, wr_opt, wr_grd, wr_err, asgD, deref_int, deref_tup, deref_lst, deref_str, deref_bl, deref_non, deref_dK, deref_dT, deref_scr, deref_fn, isObj, bin_add, bin_addS, bin_addT, bin_addL, bin_sub, bin_mul, bin_mulL, bin_mulT, bin_fdiv, bin_mod, bin_pow, cmp_eq, cmp_ne, cmp_lt, cmp_le, cmp_gt, cmp_ge, cmp_isB, cmp_isnotB, cmp_is, cmp_isnot, cmp_inn, cmp_notin, eq_int, eq_str, eq_bl, tru_non, tru_bl, tru_int, tru_tup, tru_lst, tru_dK, ix_tup, ix_lst, ix_dK, ix_dT, bi_lenT, bi_lenL, bi_lenS, bi_int, bi_intB, bi_tupT, bi_tupL, bi_lisT, bi_lisL, bi_repr, bi_all, bi_any, bi_sum, bi_max, bi_min, bi_abs, bi_gcd, in_lst, in_tup, in_dK, in_dT, get_dKi, get_dKs, get_dTt, put_dKi, put_dKs, put_dTt, put_lst, key_int, key_str, keys_nil, keys_cons, slc_tup, slc_lst, slc_scr, end_t, end_f, ty_app, ty_pop, ty_ext, ty_getK, ty_getT, ok_int, ok_str, ok_non, isNop, and_assoc, at_0, at_1, at_2, at_3, ix_nats e3, ix_lev f2, szL, de_nats, de_lev]
    rw [nxt_nx, ws_nil]
    refine ⟨c + 1, nn, ⟨_, _, rfl⟩, rfl, by omega, p2, ?_⟩
    rw [ew, List.drop_eq_getElem_cons c1, walk_go s', hnn]
    refine Prod.ext rfl ?_
    show c + ((walk levs (c + 1) nn (u.drop (c + 1))).2 + 1) = c + 1 + (walk levs (c + 1) nn (u.drop (c + 1))).2
    omega
end
end Lw
/-! k59: a word is right. -/
namespace Lw
open Mi
section
variable {k t n : Nat} {sizes : List Nat} {levs : List (List Sta)} {rows : List Row} {h : MH} {Q : D → MH → Prop}
theorem res_repr (wf : WfM sizes levs) (p : Pos levs t n) : ∃ x, reprD (resD levs t n) = some (.str x) := (resD_text wf p).text (by decide) (by decide)
theorem c_word_right {u : List Nat} (wf : WfM sizes levs) (hu : RW sizes 0 u) (hz : u.length ≤ 100) (w : Q (.bl true) h) : Wc (callF prg (k + 4)) 23 [macD sizes levs, natsD u] h Q := by
  obtain ⟨lv0, e1, e2⟩ := (Pos.first wf).st
  have i0 : ixD (levsD levs) (.int 0) = some (levD lv0) := ix_levs (t := 0) e1
  have i1 : ixD (levD lv0) (.int 0) = some (stAt levs 0 0).d := ix_lev (n := 0) e2
  obtain ⟨x0, ex0⟩ := res_repr wf (Pos.first wf)
  refine wc_at (fn := f_law_word_right) rfl rfl ?_
  show Ws _ (.cons _ _) _ _ _
  rw [ws_cons]
  simp [ws_nil, ws_pass, ws_brk, ws_cnt, ws_ret0, ws_cons, nxt_rt, nxt_bk, nxt_ct, ws_asg, ws_put, ws_expr, ws_ret, ws_ite, we_var, we_int, we_str, we_bl, we_non, we_nopart, we_gint, we_gfn, we_bin, we_neg, we_cmp, we_chain, we_andd, we_orr, we_one, we_nott, we_ite, wl_nil, wl_cons, we_tup, we_lst, we_dct, we_dsp, we_call, we_callv, we_bi, we_isi, isi_non, isi_bl, isi_int, isi_str, isi_tup, isi_lst, isi_dK, isi_dT, we_ix, we_slc, we_rev, we_me, we_frz, we_rng, wf_rt, wf_nx, wr_ok, wr_opt, wr_grd, wr_err, asgD, deref_int, deref_tup, deref_lst, deref_str, deref_bl, deref_non, deref_dK, deref_dT, deref_scr, deref_fn, isObj, bin_add, bin_addS, bin_addT, bin_addL, bin_sub, bin_mul, bin_mulL, bin_mulT, bin_fdiv, bin_mod, bin_pow, cmp_eq, cmp_ne, cmp_lt, cmp_le, cmp_gt, cmp_ge, cmp_isB, cmp_isnotB, cmp_is, cmp_isnot, cmp_inn, cmp_notin, eq_int, eq_str, eq_bl, tru_non, tru_bl, tru_int, tru_tup, tru_lst, tru_dK, ix_tup, ix_lst, ix_dK, ix_dT, bi_lenT, bi_lenL, bi_lenS, bi_int, bi_intB, bi_tupT, bi_tupL, bi_lisT, bi_lisL, bi_repr, bi_all, bi_any, bi_sum, bi_max, bi_min, bi_abs, bi_gcd, in_lst, in_tup, in_dK, in_dT, get_dKi, get_dKs, get_dTt, put_dKi, put_dKs, put_dTt, put_lst, key_int, key_str, keys_nil, keys_cons, slc_tup, slc_lst, slc_scr, end_t, end_f, ty_app, ty_pop, ty_ext, ty_getK, ty_getT, ok_int, ok_str, ok_non, isNop, and_assoc, at_0, at_1, at_2, at_3, f_law_word_right]
  refine c_result (t := 0) (n := 0) wf (Pos.first wf) ?_
  simp [ws_nil, ws_pass, ws_brk, ws_cnt, ws_ret0, ws_cons, nxt_rt, nxt_bk, nxt_ct, ws_asg, ws_put, ws_expr, ws_ret, ws_ite, we_var, we_int, we_str, we_bl, we_non, we_nopart, we_gint, we_gfn, we_bin, we_neg, we_cmp, we_chain, we_andd, we_orr, we_one, we_nott, we_ite, wl_nil, wl_cons, we_tup, we_lst, we_dct, we_dsp, we_call, we_callv, we_bi, we_isi, isi_non, isi_bl, isi_int, isi_str, isi_tup, isi_lst, isi_dK, isi_dT, we_ix, we_slc, we_rev, we_me, we_frz, we_rng, wf_rt, wf_nx, wr_ok, wr_opt, wr_grd, wr_err, asgD, deref_int, deref_tup, deref_lst, deref_str, deref_bl, deref_non, deref_dK, deref_dT, deref_scr, deref_fn, isObj, bin_add, bin_addS, bin_addT, bin_addL, bin_sub, bin_mul, bin_mulL, bin_mulT, bin_fdiv, bin_mod, bin_pow, cmp_eq, cmp_ne, cmp_lt, cmp_le, cmp_gt, cmp_ge, cmp_isB, cmp_isnotB, cmp_is, cmp_isnot, cmp_inn, cmp_notin, eq_int, eq_str, eq_bl, tru_non, tru_bl, tru_int, tru_tup, tru_lst, tru_dK, ix_tup, ix_lst, ix_dK, ix_dT, bi_lenT, bi_lenL, bi_lenS, bi_int, bi_intB, bi_tupT, bi_tupL, bi_lisT, bi_lisL, bi_repr, bi_all, bi_any, bi_sum, bi_max, bi_min, bi_abs, bi_gcd, in_lst, in_tup, in_dK, in_dT, get_dKi, get_dKs, get_dTt, put_dKi, put_dKs, put_dTt, put_lst, key_int, key_str, keys_nil, keys_cons, slc_tup, slc_lst, slc_scr, end_t, end_f, ty_app, ty_pop, ty_ext, ty_getK, ty_getT, ok_int, ok_str, ok_non, isNop, and_assoc, at_0, at_1, at_2, at_3, szL]
  rw [nxt_nx]
  simp [ws_nil, ws_pass, ws_brk, ws_cnt, ws_ret0, ws_cons, nxt_rt, nxt_bk, nxt_ct, ws_asg, ws_put, ws_expr, ws_ret, ws_ite, we_var, we_int, we_str, we_bl, we_non, we_nopart, we_gint, we_gfn, we_bin, we_neg, we_cmp, we_chain, we_andd, we_orr, we_one, we_nott, we_ite, wl_nil, wl_cons, we_tup, we_lst, we_dct, we_dsp, we_call, we_callv, we_bi, we_isi, isi_non, isi_bl, isi_int, isi_str, isi_tup, isi_lst, isi_dK, isi_dT, we_ix, we_slc, we_rev, we_me, we_frz, we_rng, wf_rt, wf_nx, wr_ok, wr_opt, wr_grd, wr_err, asgD, deref_int, deref_tup, deref_lst, deref_str, deref_bl, deref_non, deref_dK, deref_dT, deref_scr, deref_fn, isObj, bin_add, bin_addS, bin_addT, bin_addL, bin_sub, bin_mul, bin_mulL, bin_mulT, bin_fdiv, bin_mod, bin_pow, cmp_eq, cmp_ne, cmp_lt, cmp_le, cmp_gt, cmp_ge, cmp_isB, cmp_isnotB, cmp_is, cmp_isnot, cmp_inn, cmp_notin, eq_int, eq_str, eq_bl, tru_non, tru_bl, tru_int, tru_tup, tru_lst, tru_dK, ix_tup, ix_lst, ix_dK, ix_dT, bi_lenT, bi_lenL, bi_lenS, bi_int, bi_intB, bi_tupT, bi_tupL, bi_lisT, bi_lisL, bi_repr, bi_all, bi_any, bi_sum, bi_max, bi_min, bi_abs, bi_gcd, in_lst, in_tup, in_dK, in_dT, get_dKi, get_dKs, get_dTt, put_dKi, put_dKs, put_dTt, put_lst, key_int, key_str, keys_nil, keys_cons, slc_tup, slc_lst, slc_scr, end_t, end_f, ty_app, ty_pop, ty_ext, ty_getK, ty_getT, ok_int, ok_str, ok_non, isNop, and_assoc, at_0, at_1, at_2, at_3]
  refine c_first wf ?_
  simp [ws_nil, ws_pass, ws_brk, ws_cnt, ws_ret0, ws_cons, nxt_rt, nxt_bk, nxt_ct, ws_asg, ws_put, ws_expr, ws_ret, ws_ite, we_var, we_int, we_str, we_bl, we_non, we_nopart, we_gint, we_gfn, we_bin, we_neg, we_cmp, we_chain, we_andd, we_orr, we_one, we_nott, we_ite, wl_nil, wl_cons, we_tup, we_lst, we_dct, we_dsp, we_call, we_callv, we_bi, we_isi, isi_non, isi_bl, isi_int, isi_str, isi_tup, isi_lst, isi_dK, isi_dT, we_ix, we_slc, we_rev, we_me, we_frz, we_rng, wf_rt, wf_nx, wr_ok, wr_opt, wr_grd, wr_err, asgD, deref_int, deref_tup, deref_lst, deref_str, deref_bl, deref_non, deref_dK, deref_dT, deref_scr, deref_fn, isObj, bin_add, bin_addS, bin_addT, bin_addL, bin_sub, bin_mul, bin_mulL, bin_mulT, bin_fdiv, bin_mod, bin_pow, cmp_eq, cmp_ne, cmp_lt, cmp_le, cmp_gt, cmp_ge, cmp_isB, cmp_isnotB, cmp_is, cmp_isnot, cmp_inn, cmp_notin, eq_int, eq_str, eq_bl, tru_non, tru_bl, tru_int, tru_tup, tru_lst, tru_dK, ix_tup, ix_lst, ix_dK, ix_dT, bi_lenT, bi_lenL, bi_lenS, bi_int, bi_intB, bi_tupT, bi_tupL, bi_lisT, bi_lisL, bi_repr, bi_all, bi_any, bi_sum, bi_max, bi_min, bi_abs, bi_gcd, in_lst, in_tup, in_dK, in_dT, get_dKi, get_dKs, get_dTt, put_dKi, put_dKs, put_dTt, put_lst, key_int, key_str, keys_nil, keys_cons, slc_tup, slc_lst, slc_scr, end_t, end_f, ty_app, ty_pop, ty_ext, ty_getK, ty_getT, ok_int, ok_str, ok_non, isNop, and_assoc, at_0, at_1, at_2, at_3, de_res, ex0]
  rw [nxt_nx, ws_cons]
  refine ws_whil (I := fun m σ h' => ∃ c n' a b d, σ = [some (macD sizes levs), some (natsD u), some (resD levs c n'), some (.int (c : Nat)), a, b, d, none] ∧ h' = h ∧ c ≤ u.length ∧ m = u.length - c ∧ Pos levs c n' ∧ walk levs 0 0 u = ((walk levs c n' (u.drop c)).1, c + (walk levs c n' (u.drop c)).2)) u.length (by unfold wfuel; omega) ⟨0, 0, none, none, none, rfl, rfl, Nat.zero_le _, rfl, Pos.first wf, by simp⟩ ?_
  rintro m σ h' ⟨c, n', a, b, d, rfl, rfl, hc, rfl, p', ew⟩
  have fin : ((∃ v, stAt levs c n' = .told v) ∨ c = u.length) → nxt (callF prg (k + 3)) (match f_law_word_right.body with
      | .cons _ (.cons _ (.cons _ r)) => r
      | _ => .nil) (Wf false h'.length Q) .nx [some (macD sizes levs), some (natsD u), some (resD levs c n'), some (.int (c : Nat)), a, b, d, none] h' := fun q => by
    have e : walk levs 0 0 u = (n', c) := by
      rw [ew]
      rcases q with ⟨v, q⟩ | q
      · rw [walk_told q]; rfl
      · rw [q, List.drop_length, walk_nil]; rfl
    rw [nxt_nx]
    show Ws _ (.cons _ _) _ _ _
    rw [ws_cons]
    cases s0 : stAt levs 0 0 with
    | told v =>
      rw [s0] at i1
      simp [ws_nil, ws_pass, ws_brk, ws_cnt, ws_ret0, ws_cons, nxt_rt, nxt_bk, nxt_ct, ws_asg, ws_put, ws_expr, ws_ret, ws_ite, we_var, we_int, we_str, we_bl, we_non, we_nopart, we_gint, we_gfn, we_bin, we_neg, we_cmp, we_chain, we_andd, we_orr, we_one, we_nott, we_ite, wl_nil, wl_cons, we_tup, we_lst, we_dct, we_dsp, we_call, we_callv, we_bi, we_isi, isi_non, isi_bl, isi_int, isi_str, isi_tup, isi_lst, isi_dK, isi_dT, we_ix, we_slc, we_rev, we_me, we_frz, we_rng, wf_rt, wf_nx, wr_ok, wr_opt, wr_grd, wr_err, asgD, deref_int, deref_tup, deref_lst, deref_str, deref_bl, deref_non, deref_dK, deref_dT, deref_scr, deref_fn, isObj, bin_add, bin_addS, bin_addT, bin_addL, bin_sub, bin_mul, bin_mulL, bin_mulT, bin_fdiv, bin_mod, bin_pow, cmp_eq, cmp_ne, cmp_lt, cmp_le, cmp_gt, cmp_ge, cmp_isB, cmp_isnotB, cmp_is, cmp_isnot, cmp_inn, cmp_notin, eq_int, eq_str, eq_bl, tru_non, tru_bl, tru_int, tru_tup, tru_lst, tru_dK, ix_tup, ix_lst, ix_dK, ix_dT, bi_lenT, bi_lenL, bi_lenS, bi_int, bi_intB, bi_tupT, bi_tupL, bi_lisT, bi_lisL, bi_repr, bi_all, bi_any, bi_sum, bi_max, bi_min, bi_abs, bi_gcd, in_lst, in_tup, in_dK, in_dT, get_dKi, get_dKs, get_dTt, put_dKi, put_dKs, put_dTt, put_lst, key_int, key_str, keys_nil, keys_cons, slc_tup, slc_lst, slc_scr, end_t, end_f, ty_app, ty_pop, ty_ext, ty_getK, ty_getT, ok_int, ok_str, ok_non, isNop, and_assoc, at_0, at_1, at_2, at_3, de_mac, ix_mac1, de_levs, i0, de_lev, i1, de_sta, ix_told0]
      exact wr_fin rfl take_self w
    | go l0 =>
      rw [s0] at i1
      simp [ws_nil, ws_pass, ws_brk, ws_cnt, ws_ret0, ws_cons, nxt_rt, nxt_bk, nxt_ct, ws_asg, ws_put, ws_expr, ws_ret, ws_ite, we_var, we_int, we_str, we_bl, we_non, we_nopart, we_gint, we_gfn, we_bin, we_neg, we_cmp, we_chain, we_andd, we_orr, we_one, we_nott, we_ite, wl_nil, wl_cons, we_tup, we_lst, we_dct, we_dsp, we_call, we_callv, we_bi, we_isi, isi_non, isi_bl, isi_int, isi_str, isi_tup, isi_lst, isi_dK, isi_dT, we_ix, we_slc, we_rev, we_me, we_frz, we_rng, wf_rt, wf_nx, wr_ok, wr_opt, wr_grd, wr_err, asgD, deref_int, deref_tup, deref_lst, deref_str, deref_bl, deref_non, deref_dK, deref_dT, deref_scr, deref_fn, isObj, bin_add, bin_addS, bin_addT, bin_addL, bin_sub, bin_mul, bin_mulL, bin_mulT, bin_fdiv, bin_mod, bin_pow, cmp_eq, cmp_ne, cmp_lt, cmp_le, cmp_gt, cmp_ge, cmp_isB, cmp_isnotB, cmp_is, cmp_isnot, cmp_inn, cmp_notin, eq_int, eq_str, eq_bl, tru_non, tru_bl, tru_int, tru_tup, tru_lst, tru_dK, ix_tup, ix_lst, ix_dK, ix_dT, bi_lenT, bi_lenL, bi_lenS, bi_int, bi_intB, bi_tupT, bi_tupL, bi_lisT, bi_lisL, bi_repr, bi_all, bi_any, bi_sum, bi_max, bi_min, bi_abs, bi_gcd, in_lst, in_tup, in_dK, in_dT, get_dKi, get_dKs, get_dTt, put_dKi, put_dKs, put_dTt, put_lst, key_int, key_str, keys_nil, keys_cons, slc_tup, slc_lst, slc_scr, end_t, end_f, ty_app, ty_pop, ty_ext, ty_getK, ty_getT, ok_int, ok_str, ok_non, isNop, and_assoc, at_0, at_1, at_2, at_3, de_mac, ix_mac1, de_levs, i0, de_lev, i1, de_sta, ix_go0, go_told]
      rw [nxt_nx, ws_cons, ws_asg, we_lst, wl_cons, we_call]
      simp [ws_nil, ws_pass, ws_brk, ws_cnt, ws_ret0, ws_cons, nxt_rt, nxt_bk, nxt_ct, ws_asg, ws_put, ws_expr, ws_ret, ws_ite, we_var, we_int, we_str, we_bl, we_non, we_nopart, we_gint, we_gfn, we_bin, we_neg, we_cmp, we_chain, we_andd, we_orr, we_one, we_nott, we_ite, wl_nil, wl_cons, we_tup, we_lst, we_dct, we_dsp, we_call, we_callv, we_bi, we_isi, isi_non, isi_bl, isi_int, isi_str, isi_tup, isi_lst, isi_dK, isi_dT, we_ix, we_slc, we_rev, we_me, we_frz, we_rng, wf_rt, wf_nx, wr_ok, wr_opt, wr_grd, wr_err, asgD, deref_int, deref_tup, deref_lst, deref_str, deref_bl, deref_non, deref_dK, deref_dT, deref_scr, deref_fn, isObj, bin_add, bin_addS, bin_addT, bin_addL, bin_sub, bin_mul, bin_mulL, bin_mulT, bin_fdiv, bin_mod, bin_pow, cmp_eq, cmp_ne, cmp_lt, cmp_le, cmp_gt, cmp_ge, cmp_isB, cmp_isnotB, cmp_is, cmp_isnot, cmp_inn, cmp_notin, eq_int, eq_str, eq_bl, tru_non, tru_bl, tru_int, tru_tup, tru_lst, tru_dK, ix_tup, ix_lst, ix_dK, ix_dT, bi_lenT, bi_lenL, bi_lenS, bi_int, bi_intB, bi_tupT, bi_tupL, bi_lisT, bi_lisL, bi_repr, bi_all, bi_any, bi_sum, bi_max, bi_min, bi_abs, bi_gcd, in_lst, in_tup, in_dK, in_dT, get_dKi, get_dKs, get_dTt, put_dKi, put_dKs, put_dTt, put_lst, key_int, key_str, keys_nil, keys_cons, slc_tup, slc_lst, slc_scr, end_t, end_f, ty_app, ty_pop, ty_ext, ty_getK, ty_getT, ok_int, ok_str, ok_non, isNop, and_assoc, at_0, at_1, at_2, at_3, szL]
      refine c_read_all (t := 0) (n := 0) wf (Pos.first wf) s0 hu (by omega) ?_
      have e0 : resD levs 0 0 = .tup [.str "on", .tup [.int 0, .int 0]] := res_go s0
      rw [e, Nat.zero_add]
      have g0 := c_read_all (k := k) (h := h') (u := []) (t := 0) (n := 0) (Q := fun d h1 => d = .tup [.tup [.str "on", .tup [.int 0, .int 0]], .int 0] ∧ h1 = h') wf (Pos.first wf) s0 (fun i d e => by simp at e) (by simp) (by
        rw [walk_nil]
        refine ⟨?_, rfl⟩
        show D.tup [resD levs 0 0, .int 0] = _
        rw [e0])
      refine g0.mono ?_
      rintro _ _ ⟨rfl, rfl⟩
      rw [nxt_nx]
      simp [ws_nil, ws_pass, ws_brk, ws_cnt, ws_ret0, ws_cons, nxt_rt, nxt_bk, nxt_ct, ws_asg, ws_put, ws_expr, ws_ret, ws_ite, we_var, we_int, we_str, we_bl, we_non, we_nopart, we_gint, we_gfn, we_bin, we_neg, we_cmp, we_chain, we_andd, we_orr, we_one, we_nott, we_ite, wl_nil, wl_cons, we_tup, we_lst, we_dct, we_dsp, we_call, we_callv, we_bi, we_isi, isi_non, isi_bl, isi_int, isi_str, isi_tup, isi_lst, isi_dK, isi_dT, we_ix, we_slc, we_rev, we_me, we_frz, we_rng, wf_rt, wf_nx, wr_ok, wr_opt, wr_grd, wr_err, asgD, deref_int, deref_tup, deref_lst, deref_str, deref_bl, deref_non, deref_dK, deref_dT, deref_scr, deref_fn, isObj, bin_add, bin_addS, bin_addT, bin_addL, bin_sub, bin_mul, bin_mulL, bin_mulT, bin_fdiv, bin_mod, bin_pow, cmp_eq, cmp_ne, cmp_lt, cmp_le, cmp_gt, cmp_ge, cmp_isB, cmp_isnotB, cmp_is, cmp_isnot, cmp_inn, cmp_notin, eq_int, eq_str, eq_bl, tru_non, tru_bl, tru_int, tru_tup, tru_lst, tru_dK, ix_tup, ix_lst, ix_dK, ix_dT, bi_lenT, bi_lenL, bi_lenS, bi_int, bi_intB, bi_tupT, bi_tupL, bi_lisT, bi_lisL, bi_repr, bi_all, bi_any, bi_sum, bi_max, bi_min, bi_abs, bi_gcd, in_lst, in_tup, in_dK, in_dT, get_dKi, get_dKs, get_dTt, put_dKi, put_dKs, put_dTt, put_lst, key_int, key_str, keys_nil, keys_cons, slc_tup, slc_lst, slc_scr, end_t, end_f, ty_app, ty_pop, ty_ext, ty_getK, ty_getT, ok_int, ok_str, ok_non, isNop, and_assoc, at_0, at_1, at_2, at_3, szL]
      have dt : Dat 5 5000 (.lst [.tup [resD levs c n', .int (c : Nat)], .tup [.tup [.str "on", .tup [.int 0, .int 0]], .int 0]]) := by
        have dc : Dat 3 1002 (.int (c : Nat)) := Dat.nat (m := 1000) (by omega) (by decide)
        have d0 : Dat 3 102 (.int (0 : Nat)) := Dat.nat (m := 100) (by omega) (by decide)
        have r1 := resD_text wf p'
        have r0 := resD_text wf (Pos.first wf)
        rw [e0] at r0
        exact (Dat.lst (Dats.cons (Dat.tup (Dats.cons r1 (Dats.cons dc .nil))) (Dats.cons ((Dat.tup (Dats.cons r0 (Dats.cons d0 .nil))).mono (by decide) (Nat.le_refl _)) .nil))).mono (by decide) (by decide)
      obtain ⟨x, ex⟩ := dt.text (by decide) (by decide)
      simp [ws_nil, ws_pass, ws_brk, ws_cnt, ws_ret0, ws_cons, nxt_rt, nxt_bk, nxt_ct, ws_asg, ws_put, ws_expr, ws_ret, ws_ite, we_var, we_int, we_str, we_bl, we_non, we_nopart, we_gint, we_gfn, we_bin, we_neg, we_cmp, we_chain, we_andd, we_orr, we_one, we_nott, we_ite, wl_nil, wl_cons, we_tup, we_lst, we_dct, we_dsp, we_call, we_callv, we_bi, we_isi, isi_non, isi_bl, isi_int, isi_str, isi_tup, isi_lst, isi_dK, isi_dT, we_ix, we_slc, we_rev, we_me, we_frz, we_rng, wf_rt, wf_nx, wr_ok, wr_opt, wr_grd, wr_err, asgD, deref_int, deref_tup, deref_lst, deref_str, deref_bl, deref_non, deref_dK, deref_dT, deref_scr, deref_fn, isObj, bin_add, bin_addS, bin_addT, bin_addL, bin_sub, bin_mul, bin_mulL, bin_mulT, bin_fdiv, bin_mod, bin_pow, cmp_eq, cmp_ne, cmp_lt, cmp_le, cmp_gt, cmp_ge, cmp_isB, cmp_isnotB, cmp_is, cmp_isnot, cmp_inn, cmp_notin, eq_int, eq_str, eq_bl, tru_non, tru_bl, tru_int, tru_tup, tru_lst, tru_dK, ix_tup, ix_lst, ix_dK, ix_dT, bi_lenT, bi_lenL, bi_lenS, bi_int, bi_intB, bi_tupT, bi_tupL, bi_lisT, bi_lisL, bi_repr, bi_all, bi_any, bi_sum, bi_max, bi_min, bi_abs, bi_gcd, in_lst, in_tup, in_dK, in_dT, get_dKi, get_dKs, get_dTt, put_dKi, put_dKs, put_dTt, put_lst, key_int, key_str, keys_nil, keys_cons, slc_tup, slc_lst, slc_scr, end_t, end_f, ty_app, ty_pop, ty_ext, ty_getK, ty_getT, ok_int, ok_str, ok_non, isNop, and_assoc, at_0, at_1, at_2, at_3, ex]
      exact wr_fin rfl take_self w
  cases s' : stAt levs c n' with
  | told v =>
    have f := fin (.inl ⟨v, s'⟩)
    rw [res_told s'] at f ⊢
    simp [ws_nil, ws_pass, ws_brk, ws_cnt, ws_ret0, ws_cons, nxt_rt, nxt_bk, nxt_ct, ws_asg, ws_put, ws_expr, ws_ret, ws_ite, we_var, we_int, we_str, we_bl, we_non, we_nopart, we_gint, we_gfn, we_bin, we_neg, we_cmp, we_chain, we_andd, we_orr, we_one, we_nott, we_ite, wl_nil, wl_cons, we_tup, we_lst, we_dct, we_dsp, we_call, we_callv, we_bi, we_isi, isi_non, isi_bl, isi_int, isi_str, isi_tup, isi_lst, isi_dK, isi_dT, we_ix, we_slc, we_rev, we_me, we_frz, we_rng, wf_rt, wf_nx, wr_ok, wr_opt, wr_grd, wr_err, asgD, deref_int, deref_tup, deref_lst, deref_str, deref_bl, deref_non, deref_dK, deref_dT, deref_scr, deref_fn, isObj, bin_add, bin_addS, bin_addT, bin_addL, bin_sub, bin_mul, bin_mulL, bin_mulT, bin_fdiv, bin_mod, bin_pow, cmp_eq, cmp_ne, cmp_lt, cmp_le, cmp_gt, cmp_ge, cmp_isB, cmp_isnotB, cmp_is, cmp_isnot, cmp_inn, cmp_notin, eq_int, eq_str, eq_bl, tru_non, tru_bl, tru_int, tru_tup, tru_lst, tru_dK, ix_tup, ix_lst, ix_dK, ix_dT, bi_lenT, bi_lenL, bi_lenS, bi_int, bi_intB, bi_tupT, bi_tupL, bi_lisT, bi_lisL, bi_repr, bi_all, bi_any, bi_sum, bi_max, bi_min, bi_abs, bi_gcd, in_lst, in_tup, in_dK, in_dT, get_dKi, get_dKs, get_dTt, put_dKi, put_dKs, put_dTt, put_lst, key_int, key_str, keys_nil, keys_cons, slc_tup, slc_lst, slc_scr, end_t, end_f, ty_app, ty_pop, ty_ext, ty_getK, ty_getT, ok_int, ok_str, ok_non, isNop, and_assoc, at_0, at_1, at_2, at_3, told_on]
    exact f
  | go l' =>
    by_cases c1 : c < u.length
    · have c2 : (c : Int) < u.length := by omega
      have c3 : ¬ u.length ≤ c := by omega
      have hg : u[c]? = some u[c] := List.getElem?_eq_getElem c1
      have hd : u[c] < sizes.getD (c % sizes.length) 0 := by have := hu c _ hg; rwa [Nat.zero_add] at this
      obtain ⟨e3, p2⟩ := p'.next wf s' hd
      obtain ⟨lv, f1, f2⟩ := p'.st
      rw [s'] at f2
      obtain ⟨x, ex⟩ := res_repr wf p2
      have crd := fun {Q} w => c_read (k := k + 1) (h := h') (Q := Q) wf p' s' hd w
      generalize hnn : l'.getD u[c] 0 = nn at *
      rw [res_go s']
      simp [ws_nil, ws_pass, ws_brk, ws_cnt, ws_ret0, ws_cons, nxt_rt, nxt_bk, nxt_ct, ws_asg, ws_put, ws_expr, ws_ret, ws_ite, we_var, we_int, we_str, we_bl, we_non, we_nopart, we_gint, we_gfn, we_bin, we_neg, we_cmp, we_chain, we_andd, we_orr, we_one, we_nott, we_ite, wl_nil, wl_cons, we_tup, we_lst, we_dct, we_dsp, we_call, we_callv, we_bi, we_isi, isi_non, isi_bl, isi_int, isi_str, isi_tup, isi_lst, isi_dK, isi_dT, we_ix, we_slc, we_rev, we_me, we_frz, we_rng, wf_rt, wf_nx, wr_ok, wr_opt, wr_grd, wr_err, asgD, deref_int, deref_tup, deref_lst, deref_str, deref_bl, deref_non, deref_dK, deref_dT, deref_scr, deref_fn, isObj, bin_add, bin_addS, bin_addT, bin_addL, bin_sub, bin_mul, bin_mulL, bin_mulT, bin_fdiv, bin_mod, bin_pow, cmp_eq, cmp_ne, cmp_lt, cmp_le, cmp_gt, cmp_ge, cmp_isB, cmp_isnotB, cmp_is, cmp_isnot, cmp_inn, cmp_notin, eq_int, eq_str, eq_bl, tru_non, tru_bl, tru_int, tru_tup, tru_lst, tru_dK, ix_tup, ix_lst, ix_dK, ix_dT, bi_lenT, bi_lenL, bi_lenS, bi_int, bi_intB, bi_tupT, bi_tupL, bi_lisT, bi_lisL, bi_repr, bi_all, bi_any, bi_sum, bi_max, bi_min, bi_abs, bi_gcd, in_lst, in_tup, in_dK, in_dT, get_dKi, get_dKs, get_dTt, put_dKi, put_dKs, put_dTt, put_lst, key_int, key_str, keys_nil, keys_cons, slc_tup, slc_lst, slc_scr, end_t, end_f, ty_app, ty_pop, ty_ext, ty_getK, ty_getT, ok_int, ok_str, ok_non, isNop, and_assoc, at_0, at_1, at_2, at_3, de_nats, len_nats, c1, c2, c3]
      refine ⟨by omega, ?_⟩
      rw [nxt_nx]
      simp [ws_nil, ws_pass, ws_brk, ws_cnt, ws_ret0, ws_cons, nxt_rt, nxt_bk, nxt_ct, ws_asg, ws_put, ws_expr, ws_ret, ws_ite, we_var, we_int, we_str, we_bl, we_non, we_nopart, we_gint, we_gfn, we_bin, we_neg, we_cmp, we_chain, we_andd, we_orr, we_one, we_nott, we_ite, wl_nil, wl_cons, we_tup, we_lst, we_dct, we_dsp, we_call, we_callv, we_bi, we_isi, isi_non, isi_bl, isi_int, isi_str, isi_tup, isi_lst, isi_dK, isi_dT, we_ix, we_slc, we_rev, we_me, we_frz, we_rng, wf_rt, wf_nx, wr_ok, wr_opt, wr_grd, wr_err, asgD, deref_int, deref_tup, deref_lst, deref_str, deref_bl, deref_non, deref_dK, deref_dT, deref_scr, deref_fn, isObj, bin_add, bin_addS, bin_addT, bin_addL, bin_sub, bin_mul, bin_mulL, bin_mulT, bin_fdiv, bin_mod, bin_pow, cmp_eq, cmp_ne, cmp_lt, cmp_le, cmp_gt, cmp_ge, cmp_isB, cmp_isnotB, cmp_is, cmp_isnot, cmp_inn, cmp_notin, eq_int, eq_str, eq_bl, tru_non, tru_bl, tru_int, tru_tup, tru_lst, tru_dK, ix_tup, ix_lst, ix_dK, ix_dT, bi_lenT, bi_lenL, bi_lenS, bi_int, bi_intB, bi_tupT, bi_tupL, bi_lisT, bi_lisL, bi_repr, bi_all, bi_any, bi_sum, bi_max, bi_min, bi_abs, bi_gcd, in_lst, in_tup, in_dK, in_dT, get_dKi, get_dKs, get_dTt, put_dKi, put_dKs, put_dTt, put_lst, key_int, key_str, keys_nil, keys_cons, slc_tup, slc_lst, slc_scr, end_t, end_f, ty_app, ty_pop, ty_ext, ty_getK, ty_getT, ok_int, ok_str, ok_non, isNop, and_assoc, at_0, at_1, at_2, at_3, de_mac, ix_mac1, de_levs, ix_levs f1, de_lev, ix_lev f2, de_sta, ix_go1, de_nats, ix_nats hg, ix_nats e3]
      refine c_result (t := c + 1) (n := nn) wf p2 ?_
      try simp [ws_nil, ws_pass, ws_brk, ws_cnt, ws_ret0, ws_cons, nxt_rt, nxt_bk, nxt_ct, ws_asg, ws_put, ws_expr, ws_ret, ws_ite, we_var, we_int, we_str, we_bl, we_non, we_nopart, we_gint, we_gfn, we_bin, we_neg, we_cmp, we_chain, we_andd, we_orr, we_one, we_nott, we_ite, wl_nil, wl_cons, we_tup, we_lst, we_dct, we_dsp, we_call, we_callv, we_bi, we_isi, isi_non, isi_bl, isi_int, isi_str, isi_tup, isi_lst, isi_dK, isi_dT, we_ix, we_slc, we_rev, we_me, we_frz, we_rng, wf_rt, wf_nx, wr_ok, wr_opt, wr_grd, wr_err, asgD, deref_int, deref_tup, deref_lst, deref_str, deref_bl, deref_non, deref_dK, deref_dT, deref_scr, deref_fn, isObj, bin_add, bin_addS, bin_addT, bin_addL, bin_sub, bin_mul, bin_mulL, bin_mulT, bin_fdiv, bin_mod, bin_pow, cmp_eq, cmp_ne, cmp_lt, cmp_le, cmp_gt, cmp_ge, cmp_isB, cmp_isnotB, cmp_is, cmp_isnot, cmp_inn, cmp_notin, eq_int, eq_str, eq_bl, tru_non, tru_bl, tru_int, tru_tup, tru_lst, tru_dK, ix_tup, ix_lst, ix_dK, ix_dT, bi_lenT, bi_lenL, bi_lenS, bi_int, bi_intB, bi_tupT, bi_tupL, bi_lisT, bi_lisL, bi_repr, bi_all, bi_any, bi_sum, bi_max, bi_min, bi_abs, bi_gcd, in_lst, in_tup, in_dK, in_dT, get_dKi, get_dKs, get_dTt, put_dKi, put_dKs, put_dTt, put_lst, key_int, key_str, keys_nil, keys_cons, slc_tup, slc_lst, slc_scr, end_t, end_f, ty_app, ty_pop, ty_ext, ty_getK, ty_getT, ok_int, ok_str, ok_non, isNop, and_assoc, at_0, at_1, at_2, at_3]
      rw [nxt_nx]
      simp [ws_nil, ws_pass, ws_brk, ws_cnt, ws_ret0, ws_cons, nxt_rt, nxt_bk, nxt_ct, ws_asg, ws_put, ws_expr, ws_ret, ws_ite, we_var, we_int, we_str, we_bl, we_non, we_nopart, we_gint, we_gfn, we_bin, we_neg, we_cmp, we_chain, we_andd, we_orr, we_one, we_nott, we_ite, wl_nil, wl_cons, we_tup, we_lst, we_dct, we_dsp, we_call, we_callv, we_bi, we_isi, isi_non, isi_bl, isi_int, isi_str, isi_tup, isi_lst, isi_dK, isi_dT, we_ix, we_slc, we_rev, we_me, we_frz, we_rng, wf_rt, wf_nx, wr_ok, wr_opt, wr_grd, wr_err, asgD, deref_int, deref_tup, deref_lst, deref_str, deref_bl, deref_non, deref_dK, deref_dT, deref_scr, deref_fn, isObj, bin_add, bin_addS, bin_addT, bin_addL, bin_sub, bin_mul, bin_mulL, bin_mulT, bin_fdiv, bin_mod, bin_pow, cmp_eq, cmp_ne, cmp_lt, cmp_le, cmp_gt, cmp_ge, cmp_isB, cmp_isnotB, cmp_is, cmp_isnot, cmp_inn, cmp_notin, eq_int, eq_str, eq_bl, tru_non, tru_bl, tru_int, tru_tup, tru_lst, tru_dK, ix_tup, ix_lst, ix_dK, ix_dT, bi_lenT, bi_lenL, bi_lenS, bi_int, bi_intB, bi_tupT, bi_tupL, bi_lisT, bi_lisL, bi_repr, bi_all, bi_any, bi_sum, bi_max, bi_min, bi_abs, bi_gcd, in_lst, in_tup, in_dK, in_dT, get_dKi, get_dKs, get_dTt, put_dKi, put_dKs, put_dTt, put_lst, key_int, key_str, keys_nil, keys_cons, slc_tup, slc_lst, slc_scr, end_t, end_f, ty_app, ty_pop, ty_ext, ty_getK, ty_getT, ok_int, ok_str, ok_non, isNop, and_assoc, at_0, at_1, at_2, at_3, de_nats, ix_nats hg]
      refine crd ?_
      simp [ws_nil, ws_pass, ws_brk, ws_cnt, ws_ret0, ws_cons, nxt_rt, nxt_bk, nxt_ct, ws_asg, ws_put, ws_expr, ws_ret, ws_ite, we_var, we_int, we_str, we_bl, we_non, we_nopart, we_gint, we_gfn, we_bin, we_neg, we_cmp, we_chain, we_andd, we_orr, we_one, we_nott, we_ite, wl_nil, wl_cons, we_tup, we_lst, we_dct, we_dsp, we_call, we_callv, we_bi, we_isi, isi_non, isi_bl, isi_int, isi_str, isi_tup, isi_lst, isi_dK, isi_dT, we_ix, we_slc, we_rev, we_me, we_frz, we_rng, wf_rt, wf_nx, wr_ok, wr_opt, wr_grd, wr_err, asgD, deref_int, deref_tup, deref_lst, deref_str, deref_bl, deref_non, deref_dK, deref_dT, deref_scr, deref_fn, isObj, bin_add, bin_addS, bin_addT, bin_addL, bin_sub, bin_mul, bin_mulL, bin_mulT, bin_fdiv, bin_mod, bin_pow, cmp_eq, cmp_ne, cmp_lt, cmp_le, cmp_gt, cmp_ge, cmp_isB, cmp_isnotB, cmp_is, cmp_isnot, cmp_inn, cmp_notin, eq_int, eq_str, eq_bl, tru_non, tru_bl, tru_int, tru_tup, tru_lst, tru_dK, ix_tup, ix_lst, ix_dK, ix_dT, bi_lenT, bi_lenL, bi_lenS, bi_int, bi_intB, bi_tupT, bi_tupL, bi_lisT, bi_lisL, bi_repr, bi_all, bi_any, bi_sum, bi_max, bi_min, bi_abs, bi_gcd, in_lst, in_tup, in_dK, in_dT, get_dKi, get_dKs, get_dTt, put_dKi, put_dKs, put_dTt, put_lst, key_int, key_str, keys_nil, keys_cons, slc_tup, slc_lst, slc_scr, end_t, end_f, ty_app, ty_pop, ty_ext, ty_getK, ty_getT, ok_int, ok_str, ok_non, isNop, and_assoc, at_0, at_1, at_2, at_3, de_res, ex]
      rw [nxt_nx]
      simp [ws_nil, ws_pass, ws_brk, ws_cnt, ws_ret0, ws_cons, nxt_rt, nxt_bk, nxt_ct, ws_asg, ws_put, ws_expr, ws_ret, ws_ite, we_var, we_int, we_str, we_bl, we_non, we_nopart, we_gint, we_gfn, we_bin, we_neg, we_cmp, we_chain, we_andd, we_orr, we_one, we_nott, we_ite, wl_nil, wl_cons, we_tup, we_lst, we_dct, we_dsp, we_call, we_callv, we_bi, we_isi, isi_non, isi_bl, isi_int, isi_str, isi_tup, isi_lst, isi_dK, isi_dT, we_ix, we_slc, we_rev, we_me, we_frz, we_rng, wf_rt, wf_nx, wr_ok, wr_opt, wr_grd, wr_err, asgD, deref_int, deref_tup, deref_lst, deref_str, deref_bl, deref_non, deref_dK, deref_dT, deref_scr, deref_fn, isObj, bin_add, bin_addS, bin_addT, bin_addL, bin_sub, bin_mul, bin_mulL, bin_mulT, bin_fdiv, bin_mod, bin_pow, cmp_eq, cmp_ne, cmp_lt, cmp_le, cmp_gt, cmp_ge, cmp_isB, cmp_isnotB, cmp_is, cmp_isnot, cmp_inn, cmp_notin, eq_int, eq_str, eq_bl, tru_non, tru_bl, tru_int, tru_tup, tru_lst, tru_dK, ix_tup, ix_lst, ix_dK, ix_dT, bi_lenT, bi_lenL, bi_lenS, bi_int, bi_intB, bi_tupT, bi_tupL, bi_lisT, bi_lisL, bi_repr, bi_all, bi_any, bi_sum, bi_max, bi_min, bi_abs, bi_gcd, in_lst, in_tup, in_dK, in_dT, get_dKi, get_dKs, get_dTt, put_dKi, put_dKs, put_dTt, put_lst, key_int, key_str, keys_nil, keys_cons, slc_tup, slc_lst, slc_scr, end_t, end_f, ty_app, ty_pop, ty_ext, ty_getK, ty_getT, ok_int, ok_str, ok_non, isNop, and_assoc, at_0, at_1, at_2, at_3, szL]
      rw [nxt_nx, ws_nil]
      refine ⟨c + 1, nn, ⟨_, _, _, rfl⟩, rfl, by omega, by omega, p2, ?_⟩
      rw [ew, List.drop_eq_getElem_cons c1, walk_go s', hnn]
      refine Prod.ext rfl ?_
      show c + ((walk levs (c + 1) nn (u.drop (c + 1))).2 + 1) = c + 1 + (walk levs (c + 1) nn (u.drop (c + 1))).2
      omega
    · have c0 : c = u.length := by omega
      have f := fin (.inr c0)
      have c3 : u.length ≤ c := by omega
      rw [res_go s'] at f ⊢
      simp [ws_nil, ws_pass, ws_brk, ws_cnt, ws_ret0, ws_cons, nxt_rt, nxt_bk, nxt_ct, ws_asg, ws_put, ws_expr, ws_ret, ws_ite, we_var, we_int, we_str, we_bl, we_non, we_nopart, we_gint, we_gfn, we_bin, we_neg, we_cmp, we_chain, we_andd, we_orr, we_one, we_nott, we_ite, wl_nil, wl_cons, we_tup, we_lst, we_dct, we_dsp, we_call, we_callv, we_bi, we_isi, isi_non, isi_bl, isi_int, isi_str, isi_tup, isi_lst, isi_dK, isi_dT, we_ix, we_slc, we_rev, we_me, we_frz, we_rng, wf_rt, wf_nx, wr_ok, wr_opt, wr_grd, wr_err, asgD, deref_int, deref_tup, deref_lst, deref_str, deref_bl, deref_non, deref_dK, deref_dT, deref_scr, deref_fn, isObj, bin_add, bin_addS, bin_addT, bin_addL, bin_sub, bin_mul, bin_mulL, bin_mulT, bin_fdiv, bin_mod, bin_pow, cmp_eq, cmp_ne, cmp_lt, cmp_le, cmp_gt, cmp_ge, cmp_isB, cmp_isnotB, cmp_is, cmp_isnot, cmp_inn, cmp_notin, eq_int, eq_str, eq_bl, tru_non, tru_bl, tru_int, tru_tup, tru_lst, tru_dK, ix_tup, ix_lst, ix_dK, ix_dT, bi_lenT, bi_lenL, bi_lenS, bi_int, bi_intB, bi_tupT, bi_tupL, bi_lisT, bi_lisL, bi_repr, bi_all, bi_any, bi_sum, bi_max, bi_min, bi_abs, bi_gcd, in_lst, in_tup, in_dK, in_dT, get_dKi, get_dKs, get_dTt, put_dKi, put_dKs, put_dTt, put_lst, key_int, key_str, keys_nil, keys_cons, slc_tup, slc_lst, slc_scr, end_t, end_f, ty_app, ty_pop, ty_ext, ty_getK, ty_getT, ok_int, ok_str, ok_non, isNop, and_assoc, at_0, at_1, at_2, at_3, de_nats, len_nats, c1, c3]
      exact f
end
end Lw
/-! k59: what is drawn. -/
namespace Lw
open Mi
section
variable {k b i : Nat} {d : D} {h : MH} {Q : D → MH → Prop}
theorem p15 : prg[15]? = some drawF := rfl
theorem p16 : prg[16]? = some (ofF true 15) := rfl
theorem c_sizes (hi : h[i]? = some d) (m : Mach6 b d) (hb : b < 100000000) (w : ∀ (sizes : List Nat) (d' : D), 0 < sizes.length → sizes.length ≤ 3 → (∀ n ∈ sizes, 2 ≤ n ∧ n ≤ 3) → Mach6 (b + 4) d' → Q (natsD sizes) (h.set i d')) :
    Wc (callF prg (k + 3)) 17 [.ref i] h Q := by
  have hl := lt_of_get hi
  refine wc_at (fn := f_law_sizes) rfl rfl ?_
  simp only [f_law_sizes, ws_cons, ws_ret, we_bi, wl_cons]
  refine we_lcI (I := fun j acc h2 => ∃ (l : List Nat) (d' : D), acc = l.map (fun (n : Nat) => D.int n) ∧ l.length = j ∧ (∀ n ∈ l, 2 ≤ n ∧ n ≤ 3) ∧ h2 = h.set i d' ∧ Mach6 (b + 1 + j) d') ?_
  try simp [ws_nil, ws_pass, ws_brk, ws_cnt, ws_ret0, ws_cons, nxt_rt, nxt_bk, nxt_ct, ws_asg, ws_put, ws_expr, ws_ret, ws_ite, we_var, we_int, we_str, we_bl, we_non, we_nopart, we_gint, we_gfn, we_bin, we_neg, we_cmp, we_chain, we_andd, we_orr, we_one, we_nott, we_ite, wl_nil, wl_cons, we_tup, we_lst, we_dct, we_dsp, we_call, we_callv, we_bi, we_isi, isi_non, isi_bl, isi_int, isi_str, isi_tup, isi_lst, isi_dK, isi_dT, we_ix, we_slc, we_rev, we_me, we_frz, we_rng, wf_rt, wf_nx, wr_ok, wr_opt, wr_grd, wr_err, asgD, deref_int, deref_tup, deref_lst, deref_str, deref_bl, deref_non, deref_dK, deref_dT, deref_scr, deref_fn, isObj, bin_add, bin_addS, bin_addT, bin_addL, bin_sub, bin_mul, bin_mulL, bin_mulT, bin_fdiv, bin_mod, bin_pow, cmp_eq, cmp_ne, cmp_lt, cmp_le, cmp_gt, cmp_ge, cmp_isB, cmp_isnotB, cmp_is, cmp_isnot, cmp_inn, cmp_notin, eq_int, eq_str, eq_bl, tru_non, tru_bl, tru_int, tru_tup, tru_lst, tru_dK, ix_tup, ix_lst, ix_dK, ix_dT, bi_lenT, bi_lenL, bi_lenS, bi_int, bi_intB, bi_tupT, bi_tupL, bi_lisT, bi_lisL, bi_repr, bi_all, bi_any, bi_sum, bi_max, bi_min, bi_abs, bi_gcd, in_lst, in_tup, in_dK, in_dT, get_dKi, get_dKs, get_dTt, put_dKi, put_dKs, put_dTt, put_lst, key_int, key_str, keys_nil, keys_cons, slc_tup, slc_lst, slc_scr, end_t, end_f, ty_app, ty_pop, ty_ext, ty_getK, ty_getT, ok_int, ok_str, ok_non, isNop, and_assoc, at_0, at_1, at_2, at_3]
  refine m_drawN (j := 15) (below := 3) p15 hi m (by omega) (by decide) (by decide) fun r d1 hr m1 => ?_
  try try simp [ws_nil, ws_pass, ws_brk, ws_cnt, ws_ret0, ws_cons, nxt_rt, nxt_bk, nxt_ct, ws_asg, ws_put, ws_expr, ws_ret, ws_ite, we_var, we_int, we_str, we_bl, we_non, we_nopart, we_gint, we_gfn, we_bin, we_neg, we_cmp, we_chain, we_andd, we_orr, we_one, we_nott, we_ite, wl_nil, wl_cons, we_tup, we_lst, we_dct, we_dsp, we_call, we_callv, we_bi, we_isi, isi_non, isi_bl, isi_int, isi_str, isi_tup, isi_lst, isi_dK, isi_dT, we_ix, we_slc, we_rev, we_me, we_frz, we_rng, wf_rt, wf_nx, wr_ok, wr_opt, wr_grd, wr_err, asgD, deref_int, deref_tup, deref_lst, deref_str, deref_bl, deref_non, deref_dK, deref_dT, deref_scr, deref_fn, isObj, bin_add, bin_addS, bin_addT, bin_addL, bin_sub, bin_mul, bin_mulL, bin_mulT, bin_fdiv, bin_mod, bin_pow, cmp_eq, cmp_ne, cmp_lt, cmp_le, cmp_gt, cmp_ge, cmp_isB, cmp_isnotB, cmp_is, cmp_isnot, cmp_inn, cmp_notin, eq_int, eq_str, eq_bl, tru_non, tru_bl, tru_int, tru_tup, tru_lst, tru_dK, ix_tup, ix_lst, ix_dK, ix_dT, bi_lenT, bi_lenL, bi_lenS, bi_int, bi_intB, bi_tupT, bi_tupL, bi_lisT, bi_lisL, bi_repr, bi_all, bi_any, bi_sum, bi_max, bi_min, bi_abs, bi_gcd, in_lst, in_tup, in_dK, in_dT, get_dKi, get_dKs, get_dTt, put_dKi, put_dKs, put_dTt, put_lst, key_int, key_str, keys_nil, keys_cons, slc_tup, slc_lst, slc_scr, end_t, end_f, ty_app, ty_pop, ty_ext, ty_getK, ty_getT, ok_int, ok_str, ok_non, isNop, and_assoc, at_0, at_1, at_2, at_3]
  refine ⟨_, rng_int (by omega) (by omega), _, itr_lst, by simp; unfold szL; omega, ⟨d1, rfl, m1⟩, ?_, ?_⟩
  · rintro j x acc h2 hx l rfl rfl hl2 d' rfl m'
    have ht : l.length < (1 + (r : Int)).toNat := by
      have := (List.getElem?_eq_some_iff.mp hx).1
      simpa using this
    refine ⟨_, rfl, by unfold szL; decide, ?_⟩
    refine m_of (jd := 15) (mv := true) (l := [.int 2, .int 2, .int 3]) p15 p16 (get_set hl) m' (by omega) (by simp) (by simp) rfl fun n x d2 hx m2 => ?_
    have hq : ∃ q : Nat, x = .int q ∧ 2 ≤ q ∧ q ≤ 3 := by
      have := List.mem_of_getElem? hx
      simp at this
      rcases this with rfl | rfl
      · exact ⟨2, rfl, by decide, by decide⟩
      · exact ⟨3, rfl, by decide, by decide⟩
    obtain ⟨q, rfl, q1, q2⟩ := hq
    refine ⟨l ++ [q], by simp, by simp, fun y hy => ?_, d2, by rw [List.set_set], m2⟩
    rcases List.mem_append.mp hy with z | z
    · exact hl2 y z
    · have : y = q := by simpa using z
      omega
  · rintro L h2 l rfl hl1 hl2 d' rfl m'
    have e : l.length = 1 + r := by rw [hl1]; simp; omega
    have w' := w l d' (by omega) (by omega) hl2 (m'.mono (by simp; omega))
    try try simp [ws_nil, ws_pass, ws_brk, ws_cnt, ws_ret0, ws_cons, nxt_rt, nxt_bk, nxt_ct, ws_asg, ws_put, ws_expr, ws_ret, ws_ite, we_var, we_int, we_str, we_bl, we_non, we_nopart, we_gint, we_gfn, we_bin, we_neg, we_cmp, we_chain, we_andd, we_orr, we_one, we_nott, we_ite, wl_nil, wl_cons, we_tup, we_lst, we_dct, we_dsp, we_call, we_callv, we_bi, we_isi, isi_non, isi_bl, isi_int, isi_str, isi_tup, isi_lst, isi_dK, isi_dT, we_ix, we_slc, we_rev, we_me, we_frz, we_rng, wf_rt, wf_nx, wr_ok, wr_opt, wr_grd, wr_err, asgD, deref_int, deref_tup, deref_lst, deref_str, deref_bl, deref_non, deref_dK, deref_dT, deref_scr, deref_fn, isObj, bin_add, bin_addS, bin_addT, bin_addL, bin_sub, bin_mul, bin_mulL, bin_mulT, bin_fdiv, bin_mod, bin_pow, cmp_eq, cmp_ne, cmp_lt, cmp_le, cmp_gt, cmp_ge, cmp_isB, cmp_isnotB, cmp_is, cmp_isnot, cmp_inn, cmp_notin, eq_int, eq_str, eq_bl, tru_non, tru_bl, tru_int, tru_tup, tru_lst, tru_dK, ix_tup, ix_lst, ix_dK, ix_dT, bi_lenT, bi_lenL, bi_lenS, bi_int, bi_intB, bi_tupT, bi_tupL, bi_lisT, bi_lisL, bi_repr, bi_all, bi_any, bi_sum, bi_max, bi_min, bi_abs, bi_gcd, in_lst, in_tup, in_dK, in_dT, get_dKi, get_dKs, get_dTt, put_dKi, put_dKs, put_dTt, put_lst, key_int, key_str, keys_nil, keys_cons, slc_tup, slc_lst, slc_scr, end_t, end_f, ty_app, ty_pop, ty_ext, ty_getK, ty_getT, ok_int, ok_str, ok_non, isNop, and_assoc, at_0, at_1, at_2, at_3]
    exact wr_fin2 (by unfold D.okR; exact okRs_nats _ _) (by rw [take_set]) w'
theorem c_row {size : Nat} (hs : 0 < size ∧ size ≤ 9) (hi : h[i]? = some d) (m : Mach6 b d) (hb : b < 100000000) (w : ∀ (r : Row) (d' : D), 0 < r.2.length → r.1.length ≤ 3 → r.2.length ≤ 3 → (∀ x, x ∈ r.1 ∨ x ∈ r.2 → x < size) → Mach6 (b + 10) d' → Q (rowD r) (h.set i d')) :
    Wc (callF prg (k + 3)) 25 [.ref i, .int size] h Q := by
  have hl := lt_of_get hi
  refine wc_at (fn := f_law_row) rfl rfl ?_
  simp only [f_law_row, ws_cons, ws_ret, ws_asg, we_bi, wl_cons]
  refine we_draws (below := size) (b1 := b + 1) p15 hl ?_ (fun x => rfl) (fun x h1 => ?_) hs.1 (by omega)
  · try simp [ws_nil, ws_pass, ws_brk, ws_cnt, ws_ret0, ws_cons, nxt_rt, nxt_bk, nxt_ct, ws_asg, ws_put, ws_expr, ws_ret, ws_ite, we_var, we_int, we_str, we_bl, we_non, we_nopart, we_gint, we_gfn, we_bin, we_neg, we_cmp, we_chain, we_andd, we_orr, we_one, we_nott, we_ite, wl_nil, wl_cons, we_tup, we_lst, we_dct, we_dsp, we_call, we_callv, we_bi, we_isi, isi_non, isi_bl, isi_int, isi_str, isi_tup, isi_lst, isi_dK, isi_dT, we_ix, we_slc, we_rev, we_me, we_frz, we_rng, wf_rt, wf_nx, wr_ok, wr_opt, wr_grd, wr_err, asgD, deref_int, deref_tup, deref_lst, deref_str, deref_bl, deref_non, deref_dK, deref_dT, deref_scr, deref_fn, isObj, bin_add, bin_addS, bin_addT, bin_addL, bin_sub, bin_mul, bin_mulL, bin_mulT, bin_fdiv, bin_mod, bin_pow, cmp_eq, cmp_ne, cmp_lt, cmp_le, cmp_gt, cmp_ge, cmp_isB, cmp_isnotB, cmp_is, cmp_isnot, cmp_inn, cmp_notin, eq_int, eq_str, eq_bl, tru_non, tru_bl, tru_int, tru_tup, tru_lst, tru_dK, ix_tup, ix_lst, ix_dK, ix_dT, bi_lenT, bi_lenL, bi_lenS, bi_int, bi_intB, bi_tupT, bi_tupL, bi_lisT, bi_lisL, bi_repr, bi_all, bi_any, bi_sum, bi_max, bi_min, bi_abs, bi_gcd, in_lst, in_tup, in_dK, in_dT, get_dKi, get_dKs, get_dTt, put_dKi, put_dKs, put_dTt, put_lst, key_int, key_str, keys_nil, keys_cons, slc_tup, slc_lst, slc_scr, end_t, end_f, ty_app, ty_pop, ty_ext, ty_getK, ty_getT, ok_int, ok_str, ok_non, isNop, and_assoc, at_0, at_1, at_2, at_3]
    refine m_drawN (j := 15) (below := 4) p15 hi m (by omega) (by decide) (by decide) fun r d1 hr m1 => ?_
    refine ⟨r, rfl, d1, rfl, m1, by omega, by omega, fun l d' l1 l2 m' => ?_⟩
    try simp [ws_nil, ws_pass, ws_brk, ws_cnt, ws_ret0, ws_cons, nxt_rt, nxt_bk, nxt_ct, ws_asg, ws_put, ws_expr, ws_ret, ws_ite, we_var, we_int, we_str, we_bl, we_non, we_nopart, we_gint, we_gfn, we_bin, we_neg, we_cmp, we_chain, we_andd, we_orr, we_one, we_nott, we_ite, wl_nil, wl_cons, we_tup, we_lst, we_dct, we_dsp, we_call, we_callv, we_bi, we_isi, isi_non, isi_bl, isi_int, isi_str, isi_tup, isi_lst, isi_dK, isi_dT, we_ix, we_slc, we_rev, we_me, we_frz, we_rng, wf_rt, wf_nx, wr_ok, wr_opt, wr_grd, wr_err, asgD, deref_int, deref_tup, deref_lst, deref_str, deref_bl, deref_non, deref_dK, deref_dT, deref_scr, deref_fn, isObj, bin_add, bin_addS, bin_addT, bin_addL, bin_sub, bin_mul, bin_mulL, bin_mulT, bin_fdiv, bin_mod, bin_pow, cmp_eq, cmp_ne, cmp_lt, cmp_le, cmp_gt, cmp_ge, cmp_isB, cmp_isnotB, cmp_is, cmp_isnot, cmp_inn, cmp_notin, eq_int, eq_str, eq_bl, tru_non, tru_bl, tru_int, tru_tup, tru_lst, tru_dK, ix_tup, ix_lst, ix_dK, ix_dT, bi_lenT, bi_lenL, bi_lenS, bi_int, bi_intB, bi_tupT, bi_tupL, bi_lisT, bi_lisL, bi_repr, bi_all, bi_any, bi_sum, bi_max, bi_min, bi_abs, bi_gcd, in_lst, in_tup, in_dK, in_dT, get_dKi, get_dKs, get_dTt, put_dKi, put_dKs, put_dTt, put_lst, key_int, key_str, keys_nil, keys_cons, slc_tup, slc_lst, slc_scr, end_t, end_f, ty_app, ty_pop, ty_ext, ty_getK, ty_getT, ok_int, ok_str, ok_non, isNop, and_assoc, at_0, at_1, at_2, at_3]
    rw [nxt_nx]
    simp only [ws_cons, ws_ret, we_tup, we_var, wl_cons, we_bi]
    refine ⟨_, rfl, ?_⟩
    refine we_draws (below := size) (b1 := b + 1 + l.length + 1) p15 (by rw [List.length_set]; exact hl) ?_ (fun x => rfl) (fun x h1 => ?_) hs.1 (by omega)
    · try simp [ws_nil, ws_pass, ws_brk, ws_cnt, ws_ret0, ws_cons, nxt_rt, nxt_bk, nxt_ct, ws_asg, ws_put, ws_expr, ws_ret, ws_ite, we_var, we_int, we_str, we_bl, we_non, we_nopart, we_gint, we_gfn, we_bin, we_neg, we_cmp, we_chain, we_andd, we_orr, we_one, we_nott, we_ite, wl_nil, wl_cons, we_tup, we_lst, we_dct, we_dsp, we_call, we_callv, we_bi, we_isi, isi_non, isi_bl, isi_int, isi_str, isi_tup, isi_lst, isi_dK, isi_dT, we_ix, we_slc, we_rev, we_me, we_frz, we_rng, wf_rt, wf_nx, wr_ok, wr_opt, wr_grd, wr_err, asgD, deref_int, deref_tup, deref_lst, deref_str, deref_bl, deref_non, deref_dK, deref_dT, deref_scr, deref_fn, isObj, bin_add, bin_addS, bin_addT, bin_addL, bin_sub, bin_mul, bin_mulL, bin_mulT, bin_fdiv, bin_mod, bin_pow, cmp_eq, cmp_ne, cmp_lt, cmp_le, cmp_gt, cmp_ge, cmp_isB, cmp_isnotB, cmp_is, cmp_isnot, cmp_inn, cmp_notin, eq_int, eq_str, eq_bl, tru_non, tru_bl, tru_int, tru_tup, tru_lst, tru_dK, ix_tup, ix_lst, ix_dK, ix_dT, bi_lenT, bi_lenL, bi_lenS, bi_int, bi_intB, bi_tupT, bi_tupL, bi_lisT, bi_lisL, bi_repr, bi_all, bi_any, bi_sum, bi_max, bi_min, bi_abs, bi_gcd, in_lst, in_tup, in_dK, in_dT, get_dKi, get_dKs, get_dTt, put_dKi, put_dKs, put_dTt, put_lst, key_int, key_str, keys_nil, keys_cons, slc_tup, slc_lst, slc_scr, end_t, end_f, ty_app, ty_pop, ty_ext, ty_getK, ty_getT, ok_int, ok_str, ok_non, isNop, and_assoc, at_0, at_1, at_2, at_3]
      refine m_drawN (j := 15) (below := 3) p15 (get_set hl) m' (by omega) (by decide) (by decide) fun r2 d2 hr2 m2 => ?_
      try simp [ws_nil, ws_pass, ws_brk, ws_cnt, ws_ret0, ws_cons, nxt_rt, nxt_bk, nxt_ct, ws_asg, ws_put, ws_expr, ws_ret, ws_ite, we_var, we_int, we_str, we_bl, we_non, we_nopart, we_gint, we_gfn, we_bin, we_neg, we_cmp, we_chain, we_andd, we_orr, we_one, we_nott, we_ite, wl_nil, wl_cons, we_tup, we_lst, we_dct, we_dsp, we_call, we_callv, we_bi, we_isi, isi_non, isi_bl, isi_int, isi_str, isi_tup, isi_lst, isi_dK, isi_dT, we_ix, we_slc, we_rev, we_me, we_frz, we_rng, wf_rt, wf_nx, wr_ok, wr_opt, wr_grd, wr_err, asgD, deref_int, deref_tup, deref_lst, deref_str, deref_bl, deref_non, deref_dK, deref_dT, deref_scr, deref_fn, isObj, bin_add, bin_addS, bin_addT, bin_addL, bin_sub, bin_mul, bin_mulL, bin_mulT, bin_fdiv, bin_mod, bin_pow, cmp_eq, cmp_ne, cmp_lt, cmp_le, cmp_gt, cmp_ge, cmp_isB, cmp_isnotB, cmp_is, cmp_isnot, cmp_inn, cmp_notin, eq_int, eq_str, eq_bl, tru_non, tru_bl, tru_int, tru_tup, tru_lst, tru_dK, ix_tup, ix_lst, ix_dK, ix_dT, bi_lenT, bi_lenL, bi_lenS, bi_int, bi_intB, bi_tupT, bi_tupL, bi_lisT, bi_lisL, bi_repr, bi_all, bi_any, bi_sum, bi_max, bi_min, bi_abs, bi_gcd, in_lst, in_tup, in_dK, in_dT, get_dKi, get_dKs, get_dTt, put_dKi, put_dKs, put_dTt, put_lst, key_int, key_str, keys_nil, keys_cons, slc_tup, slc_lst, slc_scr, end_t, end_f, ty_app, ty_pop, ty_ext, ty_getK, ty_getT, ok_int, ok_str, ok_non, isNop, and_assoc, at_0, at_1, at_2, at_3]
      refine ⟨1 + r2, by simp, d2, rfl, m2.mono (by omega), by omega, by omega, fun l' d3 l3 l4 m3 => ?_⟩
      try simp [ws_nil, ws_pass, ws_brk, ws_cnt, ws_ret0, ws_cons, nxt_rt, nxt_bk, nxt_ct, ws_asg, ws_put, ws_expr, ws_ret, ws_ite, we_var, we_int, we_str, we_bl, we_non, we_nopart, we_gint, we_gfn, we_bin, we_neg, we_cmp, we_chain, we_andd, we_orr, we_one, we_nott, we_ite, wl_nil, wl_cons, we_tup, we_lst, we_dct, we_dsp, we_call, we_callv, we_bi, we_isi, isi_non, isi_bl, isi_int, isi_str, isi_tup, isi_lst, isi_dK, isi_dT, we_ix, we_slc, we_rev, we_me, we_frz, we_rng, wf_rt, wf_nx, wr_ok, wr_opt, wr_grd, wr_err, asgD, deref_int, deref_tup, deref_lst, deref_str, deref_bl, deref_non, deref_dK, deref_dT, deref_scr, deref_fn, isObj, bin_add, bin_addS, bin_addT, bin_addL, bin_sub, bin_mul, bin_mulL, bin_mulT, bin_fdiv, bin_mod, bin_pow, cmp_eq, cmp_ne, cmp_lt, cmp_le, cmp_gt, cmp_ge, cmp_isB, cmp_isnotB, cmp_is, cmp_isnot, cmp_inn, cmp_notin, eq_int, eq_str, eq_bl, tru_non, tru_bl, tru_int, tru_tup, tru_lst, tru_dK, ix_tup, ix_lst, ix_dK, ix_dT, bi_lenT, bi_lenL, bi_lenS, bi_int, bi_intB, bi_tupT, bi_tupL, bi_lisT, bi_lisL, bi_repr, bi_all, bi_any, bi_sum, bi_max, bi_min, bi_abs, bi_gcd, in_lst, in_tup, in_dK, in_dT, get_dKi, get_dKs, get_dTt, put_dKi, put_dKs, put_dTt, put_lst, key_int, key_str, keys_nil, keys_cons, slc_tup, slc_lst, slc_scr, end_t, end_f, ty_app, ty_pop, ty_ext, ty_getK, ty_getT, ok_int, ok_str, ok_non, isNop, and_assoc, at_0, at_1, at_2, at_3, szL]
      have w' := w (l, l') d3 (by simp; omega) (by simp; omega) (by simp; omega) (fun x hx => hx.elim (l2 x) (l4 x)) (m3.mono (by omega))
      refine wr_fin2 ?_ (by rw [take_set]) w'
      show (D.okR h.length (.tup (l.map fun (n : Nat) => D.int n)) && (D.okR h.length (.tup (l'.map fun (n : Nat) => D.int n)) && true)) = true
      have e : ∀ l : List Nat, D.okR h.length (.tup (l.map fun (n : Nat) => D.int n)) = true := fun l => by unfold D.okR; exact okRs_nats _ _
      rw [e, e]; rfl
    · try simp [ws_nil, ws_pass, ws_brk, ws_cnt, ws_ret0, ws_cons, nxt_rt, nxt_bk, nxt_ct, ws_asg, ws_put, ws_expr, ws_ret, ws_ite, we_var, we_int, we_str, we_bl, we_non, we_nopart, we_gint, we_gfn, we_bin, we_neg, we_cmp, we_chain, we_andd, we_orr, we_one, we_nott, we_ite, wl_nil, wl_cons, we_tup, we_lst, we_dct, we_dsp, we_call, we_callv, we_bi, we_isi, isi_non, isi_bl, isi_int, isi_str, isi_tup, isi_lst, isi_dK, isi_dT, we_ix, we_slc, we_rev, we_me, we_frz, we_rng, wf_rt, wf_nx, wr_ok, wr_opt, wr_grd, wr_err, asgD, deref_int, deref_tup, deref_lst, deref_str, deref_bl, deref_non, deref_dK, deref_dT, deref_scr, deref_fn, isObj, bin_add, bin_addS, bin_addT, bin_addL, bin_sub, bin_mul, bin_mulL, bin_mulT, bin_fdiv, bin_mod, bin_pow, cmp_eq, cmp_ne, cmp_lt, cmp_le, cmp_gt, cmp_ge, cmp_isB, cmp_isnotB, cmp_is, cmp_isnot, cmp_inn, cmp_notin, eq_int, eq_str, eq_bl, tru_non, tru_bl, tru_int, tru_tup, tru_lst, tru_dK, ix_tup, ix_lst, ix_dK, ix_dT, bi_lenT, bi_lenL, bi_lenS, bi_int, bi_intB, bi_tupT, bi_tupL, bi_lisT, bi_lisL, bi_repr, bi_all, bi_any, bi_sum, bi_max, bi_min, bi_abs, bi_gcd, in_lst, in_tup, in_dK, in_dT, get_dKi, get_dKs, get_dTt, put_dKi, put_dKs, put_dTt, put_lst, key_int, key_str, keys_nil, keys_cons, slc_tup, slc_lst, slc_scr, end_t, end_f, ty_app, ty_pop, ty_ext, ty_getK, ty_getT, ok_int, ok_str, ok_non, isNop, and_assoc, at_0, at_1, at_2, at_3, wipeD]
  · try simp [ws_nil, ws_pass, ws_brk, ws_cnt, ws_ret0, ws_cons, nxt_rt, nxt_bk, nxt_ct, ws_asg, ws_put, ws_expr, ws_ret, ws_ite, we_var, we_int, we_str, we_bl, we_non, we_nopart, we_gint, we_gfn, we_bin, we_neg, we_cmp, we_chain, we_andd, we_orr, we_one, we_nott, we_ite, wl_nil, wl_cons, we_tup, we_lst, we_dct, we_dsp, we_call, we_callv, we_bi, we_isi, isi_non, isi_bl, isi_int, isi_str, isi_tup, isi_lst, isi_dK, isi_dT, we_ix, we_slc, we_rev, we_me, we_frz, we_rng, wf_rt, wf_nx, wr_ok, wr_opt, wr_grd, wr_err, asgD, deref_int, deref_tup, deref_lst, deref_str, deref_bl, deref_non, deref_dK, deref_dT, deref_scr, deref_fn, isObj, bin_add, bin_addS, bin_addT, bin_addL, bin_sub, bin_mul, bin_mulL, bin_mulT, bin_fdiv, bin_mod, bin_pow, cmp_eq, cmp_ne, cmp_lt, cmp_le, cmp_gt, cmp_ge, cmp_isB, cmp_isnotB, cmp_is, cmp_isnot, cmp_inn, cmp_notin, eq_int, eq_str, eq_bl, tru_non, tru_bl, tru_int, tru_tup, tru_lst, tru_dK, ix_tup, ix_lst, ix_dK, ix_dT, bi_lenT, bi_lenL, bi_lenS, bi_int, bi_intB, bi_tupT, bi_tupL, bi_lisT, bi_lisL, bi_repr, bi_all, bi_any, bi_sum, bi_max, bi_min, bi_abs, bi_gcd, in_lst, in_tup, in_dK, in_dT, get_dKi, get_dKs, get_dTt, put_dKi, put_dKs, put_dTt, put_lst, key_int, key_str, keys_nil, keys_cons, slc_tup, slc_lst, slc_scr, end_t, end_f, ty_app, ty_pop, ty_ext, ty_getK, ty_getT, ok_int, ok_str, ok_non, isNop, and_assoc, at_0, at_1, at_2, at_3, wipeD]
/-! #### the machine -/
theorem lt_of_get' {α : Type} {l : List α} {i : Nat} {a : α} (e : l[i]? = some a) : i < l.length := (List.getElem?_eq_some_iff.mp e).1
theorem isV_at {n : Nat} {x : D} (h : ([.int 0, .int 1, .tup [.int 1, .int 2], .int 7] : List D)[n]? = some x) : IsV x := by
  have := List.mem_of_getElem? h
  simp at this
  rcases this with rfl | rfl | rfl | rfl
  · exact .inl rfl
  · exact .inr (.inl rfl)
  · exact .inr (.inr (.inl rfl))
  · exact .inr (.inr (.inr rfl))
/-- a state that may stand at a moment -/
def StAt (sizes counts : List Nat) (many t : Nat) (s : Sta) : Prop := StOk (sizes.getD (t % sizes.length) 0) (counts.getD (t + 1) 0) s ∧ (t + 1 = many → ∃ v, s = .told v)
theorem Sta.okR {s : Sta} {a c : Nat} (h : StOk a c s) (n : Nat) : D.okR n s.d = true := by
  cases s with
  | told v =>
    show (true && (D.okR n v && true)) = true
    rw [IsV.ok h]; rfl
  | go l =>
    show (true && (D.okR n (natsD l) && true)) = true
    have : D.okR n (natsD l) = true := by unfold natsD D.okR; exact okRs_nats _ _
    rw [this]; rfl
theorem okRs_stas {n : Nat} : ∀ {l : List Sta}, (∀ s ∈ l, ∃ a c, StOk a c s) → D.okRs n (l.map Sta.d) = true
  | [], _ => rfl
  | s :: l, h => by
    obtain ⟨a, c, hs⟩ := h s List.mem_cons_self
    show (D.okR n s.d && D.okRs n (l.map Sta.d)) = true
    rw [Sta.okR hs, okRs_stas fun x hx => h x (List.mem_cons_of_mem _ hx)]; rfl
theorem okRs_levs {n : Nat} : ∀ {l : List (List Sta)}, (∀ lv ∈ l, ∀ s ∈ lv, ∃ a c, StOk a c s) → D.okRs n (l.map levD) = true
  | [], _ => rfl
  | lv :: l, h => by
    show (D.okR n (levD lv) && D.okRs n (l.map levD)) = true
    have : D.okR n (levD lv) = true := by unfold levD D.okR; exact okRs_stas (h lv List.mem_cons_self)
    rw [this, okRs_levs fun x hx => h x (List.mem_cons_of_mem _ hx)]; rfl
/-- the levels so far -/
structure LvOk (sizes counts : List Nat) (many : Nat) (levs : List (List Sta)) : Prop where
  ok : ∀ (t : Nat) (lv : List Sta), levs[t]? = some lv → lv.length = counts.getD t 0 ∧ ∀ s ∈ lv, StAt sizes counts many t s
theorem LvOk.snoc {sizes counts : List Nat} {many : Nat} {levs : List (List Sta)} {lv : List Sta} (o : LvOk sizes counts many levs) (h : lv.length = counts.getD levs.length 0) (hs : ∀ s ∈ lv, StAt sizes counts many levs.length s) : LvOk sizes counts many (levs ++ [lv]) := by
  refine ⟨fun t l e => ?_⟩
  by_cases c : t < levs.length
  · rw [List.getElem?_append_left c] at e
    exact o.ok t l e
  · rw [List.getElem?_append_right (by omega)] at e
    have : t - levs.length = 0 := by
      by_cases z : t - levs.length = 0
      · exact z
      · rw [List.getElem?_eq_none (by simp; omega)] at e; cases e
    have e2 : t = levs.length := by omega
    rw [this] at e
    cases e
    subst e2
    exact ⟨h, hs⟩
theorem LvOk.wf {sizes counts : List Nat} {many : Nat} {levs : List (List Sta)} (o : LvOk sizes counts many levs) (hl : levs.length = many) (hm : 1 ≤ many ∧ many ≤ 6) (hc : counts.length = many) (c0 : counts.getD 0 0 = 1) (cb : ∀ c ∈ counts, 1 ≤ c ∧ c ≤ 4)
    (s1 : 0 < sizes.length) (s2 : sizes.length ≤ 3) (s3 : ∀ n ∈ sizes, 2 ≤ n ∧ n ≤ 3) : WfM sizes levs := by
  refine ⟨s1, s2, s3, by omega, by omega, ?_, fun t lv e => ?_, fun s hs => ?_⟩
  · have h0 : levs[0]? = some levs[0] := List.getElem?_eq_getElem (by omega)
    have := (o.ok 0 _ h0).1
    rw [c0] at this
    match hq : levs[0], this with
    | [s], _ => exact ⟨s, by rw [h0, hq]⟩
  · have ht : t < levs.length := lt_of_get' e
    obtain ⟨e1, e2⟩ := o.ok t lv e
    have hc2 : counts[t]? = some counts[t] := List.getElem?_eq_getElem (by omega)
    rw [getD_some hc2] at e1
    have := cb _ (List.getElem_mem (l := counts) (n := t) (by omega))
    refine ⟨by omega, by omega, fun s hs => ?_⟩
    have q := (e2 s hs).1
    have e3 : counts.getD (t + 1) 0 = (levs.getD (t + 1) []).length := by
      by_cases z : t + 1 < levs.length
      · have g := List.getElem?_eq_getElem z
        rw [getD_some g, (o.ok _ _ g).1]
      · rw [getD_none (l := counts) (by omega), getD_none (l := levs) (by omega)]; rfl
    rw [e3] at q
    exact q
  · have g : levs[levs.length - 1]? = some levs[levs.length - 1] := List.getElem?_eq_getElem (by omega)
    rw [getD_some g] at hs
    exact ((o.ok _ _ g).2 s hs).2 (by omega)
end
end Lw
set_option maxHeartbeats 800000
/-! k59: the machine is drawn. -/
namespace Lw
open Mi
section
variable {h J : MH} {i : Nat} {a b c e : D}
theorem get_L : (h.set i a ++ c :: J)[h.length]? = some c := by
  rw [List.getElem?_append_right (by rw [List.length_set]; exact Nat.le_refl _), List.length_set, Nat.sub_self]; rfl
theorem set_L : (h.set i a ++ c :: J).set h.length e = h.set i a ++ e :: J := by
  rw [List.set_append_right _ _ (by rw [List.length_set]; exact Nat.le_refl _), List.length_set, Nat.sub_self]; rfl
theorem get_S : (h.set i a ++ c :: (J ++ [e]))[h.length + 1 + J.length]? = some e := by
  rw [List.getElem?_append_right (by rw [List.length_set]; omega), List.length_set]
  have : h.length + 1 + J.length - h.length = J.length + 1 := by omega
  rw [this, List.getElem?_cons_succ, List.getElem?_append_right (Nat.le_refl _), Nat.sub_self]; rfl
theorem set_S : (h.set i a ++ c :: (J ++ [e])).set (h.length + 1 + J.length) b = h.set i a ++ c :: (J ++ [b]) := by
  rw [List.set_append_right _ _ (by rw [List.length_set]; omega), List.length_set]
  have : h.length + 1 + J.length - h.length = J.length + 1 := by omega
  rw [this, List.set_cons_succ, List.set_append_right _ _ (Nat.le_refl _), Nat.sub_self]; rfl
end
abbrev endsD : List D := [.int 0, .int 1, .tup [.int 1, .int 2], .int 7]
def cntD (l : List Nat) : D := .lst (l.map fun (n : Nat) => D.int n)
theorem de_cnt {h : MH} {l : List Nat} : deref h (cntD l) = cntD l := rfl
theorem ix_cnt {l : List Nat} {i n : Nat} (h : l[i]? = some n) : ixD (cntD l) (.int i) = some (.int n) := at_nat (by rw [List.getElem?_map, h]; rfl)
section
variable {k b i : Nat} {d : D} {h : MH} {Q : D → MH → Prop}
/-- one state is drawn -/
theorem s_state {sizes counts : List Nat} {many j : Nat} {J : MH} {X : List D} {Y : List Sta} {e5 e10 e11 : Option D} {x9 : Nat} {Q : Fl → Env → MH → Prop} (hl : i < h.length) (m : Mach6 b d) (hb : b < 200000000) (s1 : 0 < sizes.length) (s3 : ∀ n ∈ sizes, 2 ≤ n ∧ n ≤ 3)
    (hj : j < many) (hc : counts.length = many) (cb : ∀ c ∈ counts, 1 ≤ c ∧ c ≤ 4) (hY : Y.length ≤ 10)
    (w : ∀ (s : Sta) (d' : D) (e10 e11 : Option D), StAt sizes counts many j s → Mach6 (b + 10) d' →
      Q .nx [some (.ref i), some (natsD sizes), some (.int many), some (.lst endsD), some (cntD counts), e5, some (.ref h.length), some (.int j), some (.ref (h.length + 1 + J.length)), some (.int x9), e10, e11] (h.set i d' ++ .lst X :: (J ++ [.lst ((Y ++ [s]).map Sta.d)]))) :
    Ws (callF prg (k + 3)) (match f_law_machine.body with
      | .cons _ (.cons _ (.cons (.forr _ _ (.cons _ (.cons (.forr _ _ b) _))) _)) => b
      | _ => .nil) [some (.ref i), some (natsD sizes), some (.int many), some (.lst endsD), some (cntD counts), e5, some (.ref h.length), some (.int j), some (.ref (h.length + 1 + J.length)), some (.int x9), e10, e11] (h.set i d ++ .lst X :: (J ++ [.lst (Y.map Sta.d)])) Q := by
  show Ws _ (.cons _ _) _ _ _
  have ty : ∀ d : D, deref (h.set i d ++ .lst X :: (J ++ [.lst (Y.map Sta.d)])) (.ref (h.length + 1 + J.length)) = .lst (Y.map Sta.d) := fun d => deref_ref get_S rfl
  have ap : ∀ d e : D, meR .append (.ref (h.length + 1 + J.length)) [e] (h.set i d ++ .lst X :: (J ++ [.lst (Y.map Sta.d)])) = grd (decide ((Y.map Sta.d).length < szL) && e.okR (h.length + 1 + J.length)) (.ok (.non, h.set i d ++ .lst X :: (J ++ [.lst (Y.map Sta.d ++ [e])]))) := fun d e => by rw [me_app get_S, set_S]
  have hz : Y.length < szL := by unfold szL; omega
  have yes : ∀ (d : D) (m : Mach6 (b + 1) d), Wc (callF prg (k + 3)) 16 [.ref i, .lst endsD] (h.set i d ++ .lst X :: (J ++ [.lst (Y.map Sta.d)])) fun x h1 => 2 ≤ szL ∧
      Wr (meR .append (.ref (h.length + 1 + J.length)) [.tup [.str "told", x]] h1) fun x h1 => nxt (callF prg (k + 3)) .nil (nxt (callF prg (k + 3)) .nil Q) .nx
      [some (.ref i), some (natsD sizes), some (.int many), some (.lst endsD), some (cntD counts), e5, some (.ref h.length), some (.int j), some (.ref (h.length + 1 + J.length)), some (.int x9), e10, e11] h1 := fun d m => by
    refine m_of (jd := 15) (mv := true) (l := endsD) p15 p16 (get_app hl) m (by omega) (by decide) (by decide) rfl fun n x d2 hx m2 => ?_
    have iv := isV_at hx
    rw [set_app hl]
    refine ⟨by unfold szL; decide, ?_⟩
    have okx : D.okR (h.length + 1 + J.length) (.tup [.str "told", x]) = true := by
      show (true && (D.okR _ x && true)) = true
      rw [iv.ok]; rfl
    try simp [ws_nil, ws_pass, ws_brk, ws_cnt, ws_ret0, ws_cons, nxt_rt, nxt_bk, nxt_ct, ws_asg, ws_put, ws_expr, ws_ret, ws_ite, we_var, we_int, we_str, we_bl, we_non, we_nopart, we_gint, we_gfn, we_bin, we_neg, we_cmp, we_chain, we_andd, we_orr, we_one, we_nott, we_ite, wl_nil, wl_cons, we_tup, we_lst, we_dct, we_dsp, we_call, we_callv, we_bi, we_isi, isi_non, isi_bl, isi_int, isi_str, isi_tup, isi_lst, isi_dK, isi_dT, we_ix, we_slc, we_rev, we_me, we_frz, we_rng, wf_rt, wf_nx, wr_ok, wr_opt, wr_grd, wr_err, asgD, deref_int, deref_tup, deref_lst, deref_str, deref_bl, deref_non, deref_dK, deref_dT, deref_scr, deref_fn, isObj, bin_add, bin_addS, bin_addT, bin_addL, bin_sub, bin_mul, bin_mulL, bin_mulT, bin_fdiv, bin_mod, bin_pow, cmp_eq, cmp_ne, cmp_lt, cmp_le, cmp_gt, cmp_ge, cmp_isB, cmp_isnotB, cmp_is, cmp_isnot, cmp_inn, cmp_notin, eq_int, eq_str, eq_bl, tru_non, tru_bl, tru_int, tru_tup, tru_lst, tru_dK, ix_tup, ix_lst, ix_dK, ix_dT, bi_lenT, bi_lenL, bi_lenS, bi_int, bi_intB, bi_tupT, bi_tupL, bi_lisT, bi_lisL, bi_repr, bi_all, bi_any, bi_sum, bi_max, bi_min, bi_abs, bi_gcd, in_lst, in_tup, in_dK, in_dT, get_dKi, get_dKs, get_dTt, put_dKi, put_dKs, put_dTt, put_lst, key_int, key_str, keys_nil, keys_cons, slc_tup, slc_lst, slc_scr, end_t, end_f, ty_app, ty_pop, ty_ext, ty_getK, ty_getT, ok_int, ok_str, ok_non, isNop, and_assoc, at_0, at_1, at_2, at_3, ap, hz, okx]
    rw [nxt_nx, ws_nil, nxt_nx, ws_nil]
    have := w (.told x) d2 e10 e11 ⟨iv, fun _ => ⟨x, rfl⟩⟩ (m2.mono (by omega))
    simpa [Sta.d] using this
  try simp [ws_nil, ws_pass, ws_brk, ws_cnt, ws_ret0, ws_cons, nxt_rt, nxt_bk, nxt_ct, ws_asg, ws_put, ws_expr, ws_ret, ws_ite, we_var, we_int, we_str, we_bl, we_non, we_nopart, we_gint, we_gfn, we_bin, we_neg, we_cmp, we_chain, we_andd, we_orr, we_one, we_nott, we_ite, wl_nil, wl_cons, we_tup, we_lst, we_dct, we_dsp, we_call, we_callv, we_bi, we_isi, isi_non, isi_bl, isi_int, isi_str, isi_tup, isi_lst, isi_dK, isi_dT, we_ix, we_slc, we_rev, we_me, we_frz, we_rng, wf_rt, wf_nx, wr_ok, wr_opt, wr_grd, wr_err, asgD, deref_int, deref_tup, deref_lst, deref_str, deref_bl, deref_non, deref_dK, deref_dT, deref_scr, deref_fn, isObj, bin_add, bin_addS, bin_addT, bin_addL, bin_sub, bin_mul, bin_mulL, bin_mulT, bin_fdiv, bin_mod, bin_pow, cmp_eq, cmp_ne, cmp_lt, cmp_le, cmp_gt, cmp_ge, cmp_isB, cmp_isnotB, cmp_is, cmp_isnot, cmp_inn, cmp_notin, eq_int, eq_str, eq_bl, tru_non, tru_bl, tru_int, tru_tup, tru_lst, tru_dK, ix_tup, ix_lst, ix_dK, ix_dT, bi_lenT, bi_lenL, bi_lenS, bi_int, bi_intB, bi_tupT, bi_tupL, bi_lisT, bi_lisL, bi_repr, bi_all, bi_any, bi_sum, bi_max, bi_min, bi_abs, bi_gcd, in_lst, in_tup, in_dK, in_dT, get_dKi, get_dKs, get_dTt, put_dKi, put_dKs, put_dTt, put_lst, key_int, key_str, keys_nil, keys_cons, slc_tup, slc_lst, slc_scr, end_t, end_f, ty_app, ty_pop, ty_ext, ty_getK, ty_getT, ok_int, ok_str, ok_non, isNop, and_assoc, at_0, at_1, at_2, at_3]
  by_cases c : j + 1 = many
  · have c1 : (j : Int) = (many : Int) - 1 := by omega
    have q := yes d (m.mono (by omega))
    rw [c1] at q
    try simp [ws_nil, ws_pass, ws_brk, ws_cnt, ws_ret0, ws_cons, nxt_rt, nxt_bk, nxt_ct, ws_asg, ws_put, ws_expr, ws_ret, ws_ite, we_var, we_int, we_str, we_bl, we_non, we_nopart, we_gint, we_gfn, we_bin, we_neg, we_cmp, we_chain, we_andd, we_orr, we_one, we_nott, we_ite, wl_nil, wl_cons, we_tup, we_lst, we_dct, we_dsp, we_call, we_callv, we_bi, we_isi, isi_non, isi_bl, isi_int, isi_str, isi_tup, isi_lst, isi_dK, isi_dT, we_ix, we_slc, we_rev, we_me, we_frz, we_rng, wf_rt, wf_nx, wr_ok, wr_opt, wr_grd, wr_err, asgD, deref_int, deref_tup, deref_lst, deref_str, deref_bl, deref_non, deref_dK, deref_dT, deref_scr, deref_fn, isObj, bin_add, bin_addS, bin_addT, bin_addL, bin_sub, bin_mul, bin_mulL, bin_mulT, bin_fdiv, bin_mod, bin_pow, cmp_eq, cmp_ne, cmp_lt, cmp_le, cmp_gt, cmp_ge, cmp_isB, cmp_isnotB, cmp_is, cmp_isnot, cmp_inn, cmp_notin, eq_int, eq_str, eq_bl, tru_non, tru_bl, tru_int, tru_tup, tru_lst, tru_dK, ix_tup, ix_lst, ix_dK, ix_dT, bi_lenT, bi_lenL, bi_lenS, bi_int, bi_intB, bi_tupT, bi_tupL, bi_lisT, bi_lisL, bi_repr, bi_all, bi_any, bi_sum, bi_max, bi_min, bi_abs, bi_gcd, in_lst, in_tup, in_dK, in_dT, get_dKi, get_dKs, get_dTt, put_dKi, put_dKs, put_dTt, put_lst, key_int, key_str, keys_nil, keys_cons, slc_tup, slc_lst, slc_scr, end_t, end_f, ty_app, ty_pop, ty_ext, ty_getK, ty_getT, ok_int, ok_str, ok_non, isNop, and_assoc, at_0, at_1, at_2, at_3, c1, ty]
    exact q
  · have c1 : ¬ (j : Int) = (many : Int) - 1 := by omega
    try simp [ws_nil, ws_pass, ws_brk, ws_cnt, ws_ret0, ws_cons, nxt_rt, nxt_bk, nxt_ct, ws_asg, ws_put, ws_expr, ws_ret, ws_ite, we_var, we_int, we_str, we_bl, we_non, we_nopart, we_gint, we_gfn, we_bin, we_neg, we_cmp, we_chain, we_andd, we_orr, we_one, we_nott, we_ite, wl_nil, wl_cons, we_tup, we_lst, we_dct, we_dsp, we_call, we_callv, we_bi, we_isi, isi_non, isi_bl, isi_int, isi_str, isi_tup, isi_lst, isi_dK, isi_dT, we_ix, we_slc, we_rev, we_me, we_frz, we_rng, wf_rt, wf_nx, wr_ok, wr_opt, wr_grd, wr_err, asgD, deref_int, deref_tup, deref_lst, deref_str, deref_bl, deref_non, deref_dK, deref_dT, deref_scr, deref_fn, isObj, bin_add, bin_addS, bin_addT, bin_addL, bin_sub, bin_mul, bin_mulL, bin_mulT, bin_fdiv, bin_mod, bin_pow, cmp_eq, cmp_ne, cmp_lt, cmp_le, cmp_gt, cmp_ge, cmp_isB, cmp_isnotB, cmp_is, cmp_isnot, cmp_inn, cmp_notin, eq_int, eq_str, eq_bl, tru_non, tru_bl, tru_int, tru_tup, tru_lst, tru_dK, ix_tup, ix_lst, ix_dK, ix_dT, bi_lenT, bi_lenL, bi_lenS, bi_int, bi_intB, bi_tupT, bi_tupL, bi_lisT, bi_lisL, bi_repr, bi_all, bi_any, bi_sum, bi_max, bi_min, bi_abs, bi_gcd, in_lst, in_tup, in_dK, in_dT, get_dKi, get_dKs, get_dTt, put_dKi, put_dKs, put_dTt, put_lst, key_int, key_str, keys_nil, keys_cons, slc_tup, slc_lst, slc_scr, end_t, end_f, ty_app, ty_pop, ty_ext, ty_getK, ty_getT, ok_int, ok_str, ok_non, isNop, and_assoc, at_0, at_1, at_2, at_3, c1]
    refine m_drawN (j := 15) (below := 5) p15 (get_app hl) m (by omega) (by decide) (by decide) fun r d1 hr m1 => ?_
    rw [set_app hl]
    by_cases c2 : r = 0
    · subst c2
      try simp [ws_nil, ws_pass, ws_brk, ws_cnt, ws_ret0, ws_cons, nxt_rt, nxt_bk, nxt_ct, ws_asg, ws_put, ws_expr, ws_ret, ws_ite, we_var, we_int, we_str, we_bl, we_non, we_nopart, we_gint, we_gfn, we_bin, we_neg, we_cmp, we_chain, we_andd, we_orr, we_one, we_nott, we_ite, wl_nil, wl_cons, we_tup, we_lst, we_dct, we_dsp, we_call, we_callv, we_bi, we_isi, isi_non, isi_bl, isi_int, isi_str, isi_tup, isi_lst, isi_dK, isi_dT, we_ix, we_slc, we_rev, we_me, we_frz, we_rng, wf_rt, wf_nx, wr_ok, wr_opt, wr_grd, wr_err, asgD, deref_int, deref_tup, deref_lst, deref_str, deref_bl, deref_non, deref_dK, deref_dT, deref_scr, deref_fn, isObj, bin_add, bin_addS, bin_addT, bin_addL, bin_sub, bin_mul, bin_mulL, bin_mulT, bin_fdiv, bin_mod, bin_pow, cmp_eq, cmp_ne, cmp_lt, cmp_le, cmp_gt, cmp_ge, cmp_isB, cmp_isnotB, cmp_is, cmp_isnot, cmp_inn, cmp_notin, eq_int, eq_str, eq_bl, tru_non, tru_bl, tru_int, tru_tup, tru_lst, tru_dK, ix_tup, ix_lst, ix_dK, ix_dT, bi_lenT, bi_lenL, bi_lenS, bi_int, bi_intB, bi_tupT, bi_tupL, bi_lisT, bi_lisL, bi_repr, bi_all, bi_any, bi_sum, bi_max, bi_min, bi_abs, bi_gcd, in_lst, in_tup, in_dK, in_dT, get_dKi, get_dKs, get_dTt, put_dKi, put_dKs, put_dTt, put_lst, key_int, key_str, keys_nil, keys_cons, slc_tup, slc_lst, slc_scr, end_t, end_f, ty_app, ty_pop, ty_ext, ty_getK, ty_getT, ok_int, ok_str, ok_non, isNop, and_assoc, at_0, at_1, at_2, at_3, ty]
      exact yes d1 m1
    · try simp [ws_nil, ws_pass, ws_brk, ws_cnt, ws_ret0, ws_cons, nxt_rt, nxt_bk, nxt_ct, ws_asg, ws_put, ws_expr, ws_ret, ws_ite, we_var, we_int, we_str, we_bl, we_non, we_nopart, we_gint, we_gfn, we_bin, we_neg, we_cmp, we_chain, we_andd, we_orr, we_one, we_nott, we_ite, wl_nil, wl_cons, we_tup, we_lst, we_dct, we_dsp, we_call, we_callv, we_bi, we_isi, isi_non, isi_bl, isi_int, isi_str, isi_tup, isi_lst, isi_dK, isi_dT, we_ix, we_slc, we_rev, we_me, we_frz, we_rng, wf_rt, wf_nx, wr_ok, wr_opt, wr_grd, wr_err, asgD, deref_int, deref_tup, deref_lst, deref_str, deref_bl, deref_non, deref_dK, deref_dT, deref_scr, deref_fn, isObj, bin_add, bin_addS, bin_addT, bin_addL, bin_sub, bin_mul, bin_mulL, bin_mulT, bin_fdiv, bin_mod, bin_pow, cmp_eq, cmp_ne, cmp_lt, cmp_le, cmp_gt, cmp_ge, cmp_isB, cmp_isnotB, cmp_is, cmp_isnot, cmp_inn, cmp_notin, eq_int, eq_str, eq_bl, tru_non, tru_bl, tru_int, tru_tup, tru_lst, tru_dK, ix_tup, ix_lst, ix_dK, ix_dT, bi_lenT, bi_lenL, bi_lenS, bi_int, bi_intB, bi_tupT, bi_tupL, bi_lisT, bi_lisL, bi_repr, bi_all, bi_any, bi_sum, bi_max, bi_min, bi_abs, bi_gcd, in_lst, in_tup, in_dK, in_dT, get_dKi, get_dKs, get_dTt, put_dKi, put_dKs, put_dTt, put_lst, key_int, key_str, keys_nil, keys_cons, slc_tup, slc_lst, slc_scr, end_t, end_f, ty_app, ty_pop, ty_ext, ty_getK, ty_getT, ok_int, ok_str, ok_non, isNop, and_assoc, at_0, at_1, at_2, at_3, c2]
      have hm : j % sizes.length < sizes.length := Nat.mod_lt _ s1
      have hs := List.getElem?_eq_getElem hm
      have hg : ixD (natsD sizes) (.int ((j : Int) % (sizes.length : Int))) = some (.int (sizes[j % sizes.length] : Nat)) := by
        have := ix_nats hs; simpa using this
      have hsb := s3 _ (List.getElem_mem hm)
      have hcn : counts[j + 1]? = some counts[j + 1] := List.getElem?_eq_getElem (by omega)
      have hcb := cb _ (List.mem_of_getElem? hcn)
      have hcg : ixD (cntD counts) (.int ((j : Int) + 1)) = some (.int (counts[j + 1] : Nat)) := by
        have := ix_cnt hcn; simpa using this
      generalize sizes[j % sizes.length] = sz at *
      generalize counts[j + 1] = cn at *
      try simp [ws_nil, ws_pass, ws_brk, ws_cnt, ws_ret0, ws_cons, nxt_rt, nxt_bk, nxt_ct, ws_asg, ws_put, ws_expr, ws_ret, ws_ite, we_var, we_int, we_str, we_bl, we_non, we_nopart, we_gint, we_gfn, we_bin, we_neg, we_cmp, we_chain, we_andd, we_orr, we_one, we_nott, we_ite, wl_nil, wl_cons, we_tup, we_lst, we_dct, we_dsp, we_call, we_callv, we_bi, we_isi, isi_non, isi_bl, isi_int, isi_str, isi_tup, isi_lst, isi_dK, isi_dT, we_ix, we_slc, we_rev, we_me, we_frz, we_rng, wf_rt, wf_nx, wr_ok, wr_opt, wr_grd, wr_err, asgD, deref_int, deref_tup, deref_lst, deref_str, deref_bl, deref_non, deref_dK, deref_dT, deref_scr, deref_fn, isObj, bin_add, bin_addS, bin_addT, bin_addL, bin_sub, bin_mul, bin_mulL, bin_mulT, bin_fdiv, bin_mod, bin_pow, cmp_eq, cmp_ne, cmp_lt, cmp_le, cmp_gt, cmp_ge, cmp_isB, cmp_isnotB, cmp_is, cmp_isnot, cmp_inn, cmp_notin, eq_int, eq_str, eq_bl, tru_non, tru_bl, tru_int, tru_tup, tru_lst, tru_dK, ix_tup, ix_lst, ix_dK, ix_dT, bi_lenT, bi_lenL, bi_lenS, bi_int, bi_intB, bi_tupT, bi_tupL, bi_lisT, bi_lisL, bi_repr, bi_all, bi_any, bi_sum, bi_max, bi_min, bi_abs, bi_gcd, in_lst, in_tup, in_dK, in_dT, get_dKi, get_dKs, get_dTt, put_dKi, put_dKs, put_dTt, put_lst, key_int, key_str, keys_nil, keys_cons, slc_tup, slc_lst, slc_scr, end_t, end_f, ty_app, ty_pop, ty_ext, ty_getK, ty_getT, ok_int, ok_str, ok_non, isNop, and_assoc, at_0, at_1, at_2, at_3, de_nats, len_nats, s1, hg]
      rw [nxt_nx, ws_cons, ws_expr, we_me, we_var]
      refine ⟨_, rfl, by rw [ty]; rfl, ?_⟩
      try simp [ws_nil, ws_pass, ws_brk, ws_cnt, ws_ret0, ws_cons, nxt_rt, nxt_bk, nxt_ct, ws_asg, ws_put, ws_expr, ws_ret, ws_ite, we_var, we_int, we_str, we_bl, we_non, we_nopart, we_gint, we_gfn, we_bin, we_neg, we_cmp, we_chain, we_andd, we_orr, we_one, we_nott, we_ite, wl_nil, wl_cons, we_tup, we_lst, we_dct, we_dsp, we_call, we_callv, we_bi, we_isi, isi_non, isi_bl, isi_int, isi_str, isi_tup, isi_lst, isi_dK, isi_dT, we_ix, we_slc, we_rev, we_me, we_frz, we_rng, wf_rt, wf_nx, wr_ok, wr_opt, wr_grd, wr_err, asgD, deref_int, deref_tup, deref_lst, deref_str, deref_bl, deref_non, deref_dK, deref_dT, deref_scr, deref_fn, isObj, bin_add, bin_addS, bin_addT, bin_addL, bin_sub, bin_mul, bin_mulL, bin_mulT, bin_fdiv, bin_mod, bin_pow, cmp_eq, cmp_ne, cmp_lt, cmp_le, cmp_gt, cmp_ge, cmp_isB, cmp_isnotB, cmp_is, cmp_isnot, cmp_inn, cmp_notin, eq_int, eq_str, eq_bl, tru_non, tru_bl, tru_int, tru_tup, tru_lst, tru_dK, ix_tup, ix_lst, ix_dK, ix_dT, bi_lenT, bi_lenL, bi_lenS, bi_int, bi_intB, bi_tupT, bi_tupL, bi_lisT, bi_lisL, bi_repr, bi_all, bi_any, bi_sum, bi_max, bi_min, bi_abs, bi_gcd, in_lst, in_tup, in_dK, in_dT, get_dKi, get_dKs, get_dTt, put_dKi, put_dKs, put_dTt, put_lst, key_int, key_str, keys_nil, keys_cons, slc_tup, slc_lst, slc_scr, end_t, end_f, ty_app, ty_pop, ty_ext, ty_getK, ty_getT, ok_int, ok_str, ok_non, isNop, and_assoc, at_0, at_1, at_2, at_3]
      refine we_draws (below := cn) (b1 := b + 1) p15 (by simp; omega) ?_ (fun x => rfl) (fun x h1 => ?_) (by omega) (by omega)
      · try simp [ws_nil, ws_pass, ws_brk, ws_cnt, ws_ret0, ws_cons, nxt_rt, nxt_bk, nxt_ct, ws_asg, ws_put, ws_expr, ws_ret, ws_ite, we_var, we_int, we_str, we_bl, we_non, we_nopart, we_gint, we_gfn, we_bin, we_neg, we_cmp, we_chain, we_andd, we_orr, we_one, we_nott, we_ite, wl_nil, wl_cons, we_tup, we_lst, we_dct, we_dsp, we_call, we_callv, we_bi, we_isi, isi_non, isi_bl, isi_int, isi_str, isi_tup, isi_lst, isi_dK, isi_dT, we_ix, we_slc, we_rev, we_me, we_frz, we_rng, wf_rt, wf_nx, wr_ok, wr_opt, wr_grd, wr_err, asgD, deref_int, deref_tup, deref_lst, deref_str, deref_bl, deref_non, deref_dK, deref_dT, deref_scr, deref_fn, isObj, bin_add, bin_addS, bin_addT, bin_addL, bin_sub, bin_mul, bin_mulL, bin_mulT, bin_fdiv, bin_mod, bin_pow, cmp_eq, cmp_ne, cmp_lt, cmp_le, cmp_gt, cmp_ge, cmp_isB, cmp_isnotB, cmp_is, cmp_isnot, cmp_inn, cmp_notin, eq_int, eq_str, eq_bl, tru_non, tru_bl, tru_int, tru_tup, tru_lst, tru_dK, ix_tup, ix_lst, ix_dK, ix_dT, bi_lenT, bi_lenL, bi_lenS, bi_int, bi_intB, bi_tupT, bi_tupL, bi_lisT, bi_lisL, bi_repr, bi_all, bi_any, bi_sum, bi_max, bi_min, bi_abs, bi_gcd, in_lst, in_tup, in_dK, in_dT, get_dKi, get_dKs, get_dTt, put_dKi, put_dKs, put_dTt, put_lst, key_int, key_str, keys_nil, keys_cons, slc_tup, slc_lst, slc_scr, end_t, end_f, ty_app, ty_pop, ty_ext, ty_getK, ty_getT, ok_int, ok_str, ok_non, isNop, and_assoc, at_0, at_1, at_2, at_3]
        refine ⟨sz, rfl, d1, by rw [set_app hl], m1, by omega, by omega, fun l d' l1 l2 m' => ?_⟩
        rw [set_app hl]
        have okx : D.okR (h.length + 1 + J.length) (.tup [.str "go", .tup (l.map fun (n : Nat) => D.int n)]) = true := by
          show (true && (D.okR _ (natsD l) && true)) = true
          have : D.okR (h.length + 1 + J.length) (natsD l) = true := by unfold natsD D.okR; exact okRs_nats _ _
          rw [this]; rfl
        try simp [ws_nil, ws_pass, ws_brk, ws_cnt, ws_ret0, ws_cons, nxt_rt, nxt_bk, nxt_ct, ws_asg, ws_put, ws_expr, ws_ret, ws_ite, we_var, we_int, we_str, we_bl, we_non, we_nopart, we_gint, we_gfn, we_bin, we_neg, we_cmp, we_chain, we_andd, we_orr, we_one, we_nott, we_ite, wl_nil, wl_cons, we_tup, we_lst, we_dct, we_dsp, we_call, we_callv, we_bi, we_isi, isi_non, isi_bl, isi_int, isi_str, isi_tup, isi_lst, isi_dK, isi_dT, we_ix, we_slc, we_rev, we_me, we_frz, we_rng, wf_rt, wf_nx, wr_ok, wr_opt, wr_grd, wr_err, asgD, deref_int, deref_tup, deref_lst, deref_str, deref_bl, deref_non, deref_dK, deref_dT, deref_scr, deref_fn, isObj, bin_add, bin_addS, bin_addT, bin_addL, bin_sub, bin_mul, bin_mulL, bin_mulT, bin_fdiv, bin_mod, bin_pow, cmp_eq, cmp_ne, cmp_lt, cmp_le, cmp_gt, cmp_ge, cmp_isB, cmp_isnotB, cmp_is, cmp_isnot, cmp_inn, cmp_notin, eq_int, eq_str, eq_bl, tru_non, tru_bl, tru_int, tru_tup, tru_lst, tru_dK, ix_tup, ix_lst, ix_dK, ix_dT, bi_lenT, bi_lenL, bi_lenS, bi_int, bi_intB, bi_tupT, bi_tupL, bi_lisT, bi_lisL, bi_repr, bi_all, bi_any, bi_sum, bi_max, bi_min, bi_abs, bi_gcd, in_lst, in_tup, in_dK, in_dT, get_dKi, get_dKs, get_dTt, put_dKi, put_dKs, put_dTt, put_lst, key_int, key_str, keys_nil, keys_cons, slc_tup, slc_lst, slc_scr, end_t, end_f, ty_app, ty_pop, ty_ext, ty_getK, ty_getT, ok_int, ok_str, ok_non, isNop, and_assoc, at_0, at_1, at_2, at_3, ap, hz, okx, szL]
        rw [nxt_nx, ws_nil, nxt_nx, ws_nil]
        refine ⟨hz, ?_⟩
        have := w (.go l) d' (some (.int sz)) e11 ⟨⟨by rw [getD_some hs]; exact l1, fun n hn => by rw [getD_some hcn]; exact l2 n hn⟩, fun z => absurd z c⟩ (m'.mono (by omega))
        simpa [Sta.d, natsD] using this
      · try simp [ws_nil, ws_pass, ws_brk, ws_cnt, ws_ret0, ws_cons, nxt_rt, nxt_bk, nxt_ct, ws_asg, ws_put, ws_expr, ws_ret, ws_ite, we_var, we_int, we_str, we_bl, we_non, we_nopart, we_gint, we_gfn, we_bin, we_neg, we_cmp, we_chain, we_andd, we_orr, we_one, we_nott, we_ite, wl_nil, wl_cons, we_tup, we_lst, we_dct, we_dsp, we_call, we_callv, we_bi, we_isi, isi_non, isi_bl, isi_int, isi_str, isi_tup, isi_lst, isi_dK, isi_dT, we_ix, we_slc, we_rev, we_me, we_frz, we_rng, wf_rt, wf_nx, wr_ok, wr_opt, wr_grd, wr_err, asgD, deref_int, deref_tup, deref_lst, deref_str, deref_bl, deref_non, deref_dK, deref_dT, deref_scr, deref_fn, isObj, bin_add, bin_addS, bin_addT, bin_addL, bin_sub, bin_mul, bin_mulL, bin_mulT, bin_fdiv, bin_mod, bin_pow, cmp_eq, cmp_ne, cmp_lt, cmp_le, cmp_gt, cmp_ge, cmp_isB, cmp_isnotB, cmp_is, cmp_isnot, cmp_inn, cmp_notin, eq_int, eq_str, eq_bl, tru_non, tru_bl, tru_int, tru_tup, tru_lst, tru_dK, ix_tup, ix_lst, ix_dK, ix_dT, bi_lenT, bi_lenL, bi_lenS, bi_int, bi_intB, bi_tupT, bi_tupL, bi_lisT, bi_lisL, bi_repr, bi_all, bi_any, bi_sum, bi_max, bi_min, bi_abs, bi_gcd, in_lst, in_tup, in_dK, in_dT, get_dKi, get_dKs, get_dTt, put_dKi, put_dKs, put_dTt, put_lst, key_int, key_str, keys_nil, keys_cons, slc_tup, slc_lst, slc_scr, end_t, end_f, ty_app, ty_pop, ty_ext, ty_getK, ty_getT, ok_int, ok_str, ok_non, isNop, and_assoc, at_0, at_1, at_2, at_3, wipeD, de_cnt, hcg]
end
end Lw
set_option maxHeartbeats 800000
/-! k59: the machine is drawn, all words. -/
namespace Lw
open Mi
section
variable {k b i : Nat} {d : D} {h : MH} {Q : D → MH → Prop}
theorem len_app {h J : MH} {i : Nat} {a c : D} : (h.set i a ++ c :: J).length = h.length + 1 + J.length := by simp; omega
/-- one level is drawn -/
theorem s_level {sizes counts : List Nat} {many : Nat} {J : MH} {levs : List (List Sta)} {e5 e8 e9 e10 e11 : Option D} {Q : Fl → Env → MH → Prop} (hl : i < h.length) (m : Mach6 b d) (hb : b < 150000000) (s1 : 0 < sizes.length) (s3 : ∀ n ∈ sizes, 2 ≤ n ∧ n ≤ 3)
    (hj : levs.length < many) (hm : many ≤ 6) (hc : counts.length = many) (cb : ∀ c ∈ counts, 1 ≤ c ∧ c ≤ 4) (lo : LvOk sizes counts many levs)
    (w : ∀ (lv : List Sta) (d' e : D) (e8 e9 e10 e11 : Option D), LvOk sizes counts many (levs ++ [lv]) → Mach6 (b + 60) d' →
      Q .nx [some (.ref i), some (natsD sizes), some (.int many), some (.lst endsD), some (cntD counts), e5, some (.ref h.length), some (.int levs.length), e8, e9, e10, e11] (h.set i d' ++ .lst ((levs ++ [lv]).map levD) :: (J ++ [e]))) :
    Ws (callF prg (k + 3)) (match f_law_machine.body with
      | .cons _ (.cons _ (.cons (.forr _ _ b) _)) => b
      | _ => .nil) [some (.ref i), some (natsD sizes), some (.int many), some (.lst endsD), some (cntD counts), e5, some (.ref h.length), some (.int levs.length), e8, e9, e10, e11] (h.set i d ++ .lst (levs.map levD) :: J) Q := by
  show Ws _ (.cons _ (.cons _ (.cons _ _))) _ _ _
  rw [ws_cons, ws_asg, we_lst]
  refine wl_nil.mpr ?_
  refine ⟨by unfold szL; decide, ?_⟩
  rw [if_pos rfl, len_app, List.append_assoc, List.cons_append]
  refine ⟨_, rfl, ?_⟩
  rw [nxt_nx, ws_cons]
  have hcn : counts[levs.length]? = some counts[levs.length] := List.getElem?_eq_getElem (by omega)
  have hcb := cb _ (List.mem_of_getElem? hcn)
  have hcg := ix_cnt hcn
  refine ws_forW (I := fun n σ h' => ∃ (Y : List Sta) (d' : D) (x9 x10 x11 : Option D), σ = [some (.ref i), some (natsD sizes), some (.int many), some (.lst endsD), some (cntD counts), e5, some (.ref h.length), some (.int levs.length), some (.ref (h.length + 1 + J.length)), x9, x10, x11] ∧
    h' = h.set i d' ++ .lst (levs.map levD) :: (J ++ [.lst (Y.map Sta.d)]) ∧ Y.length = n ∧ (∀ s ∈ Y, StAt sizes counts many levs.length s) ∧ Mach6 (b + 10 * n) d') ((List.range counts[levs.length]).map fun (n : Nat) => D.int n) ?_ ?_ ?_
  · refine We.mono (Q := fun w h1 => w = .lst ((List.range counts[levs.length]).map fun (n : Nat) => D.int n) ∧ h1 = h.set i d ++ .lst (levs.map levD) :: (J ++ [.lst []])) ?_ ?_
    · try simp [ws_nil, ws_pass, ws_brk, ws_cnt, ws_ret0, ws_cons, nxt_rt, nxt_bk, nxt_ct, ws_asg, ws_put, ws_expr, ws_ret, ws_ite, we_var, we_int, we_str, we_bl, we_non, we_nopart, we_gint, we_gfn, we_bin, we_neg, we_cmp, we_chain, we_andd, we_orr, we_one, we_nott, we_ite, wl_nil, wl_cons, we_tup, we_lst, we_dct, we_dsp, we_call, we_callv, we_bi, we_isi, isi_non, isi_bl, isi_int, isi_str, isi_tup, isi_lst, isi_dK, isi_dT, we_ix, we_slc, we_rev, we_me, we_frz, we_rng, wf_rt, wf_nx, wr_ok, wr_opt, wr_grd, wr_err, asgD, deref_int, deref_tup, deref_lst, deref_str, deref_bl, deref_non, deref_dK, deref_dT, deref_scr, deref_fn, isObj, bin_add, bin_addS, bin_addT, bin_addL, bin_sub, bin_mul, bin_mulL, bin_mulT, bin_fdiv, bin_mod, bin_pow, cmp_eq, cmp_ne, cmp_lt, cmp_le, cmp_gt, cmp_ge, cmp_isB, cmp_isnotB, cmp_is, cmp_isnot, cmp_inn, cmp_notin, eq_int, eq_str, eq_bl, tru_non, tru_bl, tru_int, tru_tup, tru_lst, tru_dK, ix_tup, ix_lst, ix_dK, ix_dT, bi_lenT, bi_lenL, bi_lenS, bi_int, bi_intB, bi_tupT, bi_tupL, bi_lisT, bi_lisL, bi_repr, bi_all, bi_any, bi_sum, bi_max, bi_min, bi_abs, bi_gcd, in_lst, in_tup, in_dK, in_dT, get_dKi, get_dKs, get_dTt, put_dKi, put_dKs, put_dTt, put_lst, key_int, key_str, keys_nil, keys_cons, slc_tup, slc_lst, slc_scr, end_t, end_f, ty_app, ty_pop, ty_ext, ty_getK, ty_getT, ok_int, ok_str, ok_non, isNop, and_assoc, at_0, at_1, at_2, at_3, de_cnt, hcg, rng_nat (n := counts[levs.length]) (by omega)]
    · rintro _ _ ⟨rfl, rfl⟩
      exact ⟨rfl, [], d, _, _, _, rfl, rfl, rfl, by simp, m⟩
  · rintro n x σ h' hx ⟨Y, d', x9, x10, x11, rfl, rfl, rfl, hY, m'⟩
    have ht : Y.length < counts[levs.length] := by
      have := (List.getElem?_eq_some_iff.mp hx).1
      simpa using this
    rw [List.getElem?_map, List.getElem?_range ht] at hx
    cases hx
    refine ⟨_, rfl, ?_⟩
    refine s_state (b := b + 10 * Y.length) hl m' (by omega) s1 s3 hj hc cb (by omega) fun s d2 y10 y11 hs m2 => ?_
    refine ⟨Y ++ [s], d2, _, _, _, rfl, rfl, by simp, fun z hz => ?_, m2.mono (by omega)⟩
    rcases List.mem_append.mp hz with q | q
    · exact hY z q
    · have : z = s := by simpa using q
      rw [this]; exact hs
  · rintro σ h' ⟨Y, d', x9, x10, x11, rfl, rfl, hn, hY, m'⟩
    have hn' : Y.length = counts[levs.length] := by simpa using hn
    have dL : deref (h.set i d' ++ .lst (levs.map levD) :: (J ++ [.lst (Y.map Sta.d)])) (.ref h.length) = .lst (levs.map levD) := deref_ref get_L rfl
    have dS : deref (h.set i d' ++ .lst (levs.map levD) :: (J ++ [.lst (Y.map Sta.d)])) (.ref (h.length + 1 + J.length)) = .lst (Y.map Sta.d) := deref_ref get_S rfl
    have ok : D.okR h.length (.tup (Y.map Sta.d)) = true := by
      unfold D.okR
      exact okRs_stas fun s hs => ⟨_, _, (hY s hs).1⟩
    have hz : levs.length < szL := by unfold szL; omega
    rw [nxt_nx, ws_cons, ws_expr, we_me, we_var]
    refine ⟨_, rfl, by rw [dL]; rfl, ?_⟩
    try simp [ws_nil, ws_pass, ws_brk, ws_cnt, ws_ret0, ws_cons, nxt_rt, nxt_bk, nxt_ct, ws_asg, ws_put, ws_expr, ws_ret, ws_ite, we_var, we_int, we_str, we_bl, we_non, we_nopart, we_gint, we_gfn, we_bin, we_neg, we_cmp, we_chain, we_andd, we_orr, we_one, we_nott, we_ite, wl_nil, wl_cons, we_tup, we_lst, we_dct, we_dsp, we_call, we_callv, we_bi, we_isi, isi_non, isi_bl, isi_int, isi_str, isi_tup, isi_lst, isi_dK, isi_dT, we_ix, we_slc, we_rev, we_me, we_frz, we_rng, wf_rt, wf_nx, wr_ok, wr_opt, wr_grd, wr_err, asgD, deref_int, deref_tup, deref_lst, deref_str, deref_bl, deref_non, deref_dK, deref_dT, deref_scr, deref_fn, isObj, bin_add, bin_addS, bin_addT, bin_addL, bin_sub, bin_mul, bin_mulL, bin_mulT, bin_fdiv, bin_mod, bin_pow, cmp_eq, cmp_ne, cmp_lt, cmp_le, cmp_gt, cmp_ge, cmp_isB, cmp_isnotB, cmp_is, cmp_isnot, cmp_inn, cmp_notin, eq_int, eq_str, eq_bl, tru_non, tru_bl, tru_int, tru_tup, tru_lst, tru_dK, ix_tup, ix_lst, ix_dK, ix_dT, bi_lenT, bi_lenL, bi_lenS, bi_int, bi_intB, bi_tupT, bi_tupL, bi_lisT, bi_lisL, bi_repr, bi_all, bi_any, bi_sum, bi_max, bi_min, bi_abs, bi_gcd, in_lst, in_tup, in_dK, in_dT, get_dKi, get_dKs, get_dTt, put_dKi, put_dKs, put_dTt, put_lst, key_int, key_str, keys_nil, keys_cons, slc_tup, slc_lst, slc_scr, end_t, end_f, ty_app, ty_pop, ty_ext, ty_getK, ty_getT, ok_int, ok_str, ok_non, isNop, and_assoc, at_0, at_1, at_2, at_3, dS]
    rw [me_app get_L, set_L]
    try simp [ws_nil, ws_pass, ws_brk, ws_cnt, ws_ret0, ws_cons, nxt_rt, nxt_bk, nxt_ct, ws_asg, ws_put, ws_expr, ws_ret, ws_ite, we_var, we_int, we_str, we_bl, we_non, we_nopart, we_gint, we_gfn, we_bin, we_neg, we_cmp, we_chain, we_andd, we_orr, we_one, we_nott, we_ite, wl_nil, wl_cons, we_tup, we_lst, we_dct, we_dsp, we_call, we_callv, we_bi, we_isi, isi_non, isi_bl, isi_int, isi_str, isi_tup, isi_lst, isi_dK, isi_dT, we_ix, we_slc, we_rev, we_me, we_frz, we_rng, wf_rt, wf_nx, wr_ok, wr_opt, wr_grd, wr_err, asgD, deref_int, deref_tup, deref_lst, deref_str, deref_bl, deref_non, deref_dK, deref_dT, deref_scr, deref_fn, isObj, bin_add, bin_addS, bin_addT, bin_addL, bin_sub, bin_mul, bin_mulL, bin_mulT, bin_fdiv, bin_mod, bin_pow, cmp_eq, cmp_ne, cmp_lt, cmp_le, cmp_gt, cmp_ge, cmp_isB, cmp_isnotB, cmp_is, cmp_isnot, cmp_inn, cmp_notin, eq_int, eq_str, eq_bl, tru_non, tru_bl, tru_int, tru_tup, tru_lst, tru_dK, ix_tup, ix_lst, ix_dK, ix_dT, bi_lenT, bi_lenL, bi_lenS, bi_int, bi_intB, bi_tupT, bi_tupL, bi_lisT, bi_lisL, bi_repr, bi_all, bi_any, bi_sum, bi_max, bi_min, bi_abs, bi_gcd, in_lst, in_tup, in_dK, in_dT, get_dKi, get_dKs, get_dTt, put_dKi, put_dKs, put_dTt, put_lst, key_int, key_str, keys_nil, keys_cons, slc_tup, slc_lst, slc_scr, end_t, end_f, ty_app, ty_pop, ty_ext, ty_getK, ty_getT, ok_int, ok_str, ok_non, isNop, and_assoc, at_0, at_1, at_2, at_3, ok, hz]
    rw [nxt_nx, ws_nil]
    have := w Y d' (.lst (Y.map Sta.d)) (some (.ref (h.length + 1 + J.length))) x9 x10 x11 (lo.snoc (by rw [getD_some hcn]; exact hn') hY) (m'.mono (by omega))
    simpa [levD] using this
theorem c_draw_machine {sizes : List Nat} {many : Nat} (hi : h[i]? = some d) (m : Mach6 b d) (hb : b < 100000000) (hm : 1 ≤ many ∧ many ≤ 6) (s1 : 0 < sizes.length) (s2 : sizes.length ≤ 3) (s3 : ∀ n ∈ sizes, 2 ≤ n ∧ n ≤ 3)
    (w : ∀ (levs : List (List Sta)) (d' : D), WfM sizes levs → levs.length = many → Mach6 (b + 1000) d' → Q (macD sizes levs) (h.set i d')) :
    Wc (callF prg (k + 4)) 19 [.ref i, natsD sizes, .int many, .lst endsD] h Q := by
  have hl := lt_of_get hi
  refine wc_at (fn := f_law_machine) rfl rfl ?_
  show Ws _ (.cons _ (.cons _ _)) _ _ _
  rw [ws_cons, ws_asg, we_bin, we_lst, wl_cons, we_int]
  refine wl_nil.mpr ?_
  refine ⟨by unfold szL; decide, ?_⟩
  rw [if_neg (by decide)]
  refine we_lcDraw (b1 := b) (fun n : Nat => D.int n) (fun _ n => 1 ≤ n ∧ n ≤ 4) 1 hl ?_
  rw [we_bin, we_var]
  refine ⟨_, rfl, ?_⟩
  rw [we_int]
  refine ⟨_, bin_sub, ?_⟩
  rw [if_neg (by simp)]
  refine ⟨many - 1, d, by congr 1; omega, by rw [set_same hi], m, by omega, fun t d2 ht m2 => ?_, fun l d' l1 l2 m' => ?_⟩
  · try simp [ws_nil, ws_pass, ws_brk, ws_cnt, ws_ret0, ws_cons, nxt_rt, nxt_bk, nxt_ct, ws_asg, ws_put, ws_expr, ws_ret, ws_ite, we_var, we_int, we_str, we_bl, we_non, we_nopart, we_gint, we_gfn, we_bin, we_neg, we_cmp, we_chain, we_andd, we_orr, we_one, we_nott, we_ite, wl_nil, wl_cons, we_tup, we_lst, we_dct, we_dsp, we_call, we_callv, we_bi, we_isi, isi_non, isi_bl, isi_int, isi_str, isi_tup, isi_lst, isi_dK, isi_dT, we_ix, we_slc, we_rev, we_me, we_frz, we_rng, wf_rt, wf_nx, wr_ok, wr_opt, wr_grd, wr_err, asgD, deref_int, deref_tup, deref_lst, deref_str, deref_bl, deref_non, deref_dK, deref_dT, deref_scr, deref_fn, isObj, bin_add, bin_addS, bin_addT, bin_addL, bin_sub, bin_mul, bin_mulL, bin_mulT, bin_fdiv, bin_mod, bin_pow, cmp_eq, cmp_ne, cmp_lt, cmp_le, cmp_gt, cmp_ge, cmp_isB, cmp_isnotB, cmp_is, cmp_isnot, cmp_inn, cmp_notin, eq_int, eq_str, eq_bl, tru_non, tru_bl, tru_int, tru_tup, tru_lst, tru_dK, ix_tup, ix_lst, ix_dK, ix_dT, bi_lenT, bi_lenL, bi_lenS, bi_int, bi_intB, bi_tupT, bi_tupL, bi_lisT, bi_lisL, bi_repr, bi_all, bi_any, bi_sum, bi_max, bi_min, bi_abs, bi_gcd, in_lst, in_tup, in_dK, in_dT, get_dKi, get_dKs, get_dTt, put_dKi, put_dKs, put_dTt, put_lst, key_int, key_str, keys_nil, keys_cons, slc_tup, slc_lst, slc_scr, end_t, end_f, ty_app, ty_pop, ty_ext, ty_getK, ty_getT, ok_int, ok_str, ok_non, isNop, and_assoc, at_0, at_1, at_2, at_3, wipeD, f_law_machine]
    refine m_drawN (j := 15) (below := 4) p15 (get_set hl) m2 (by omega) (by decide) (by decide) fun r d1 hr m1 => ?_
    try simp [ws_nil, ws_pass, ws_brk, ws_cnt, ws_ret0, ws_cons, nxt_rt, nxt_bk, nxt_ct, ws_asg, ws_put, ws_expr, ws_ret, ws_ite, we_var, we_int, we_str, we_bl, we_non, we_nopart, we_gint, we_gfn, we_bin, we_neg, we_cmp, we_chain, we_andd, we_orr, we_one, we_nott, we_ite, wl_nil, wl_cons, we_tup, we_lst, we_dct, we_dsp, we_call, we_callv, we_bi, we_isi, isi_non, isi_bl, isi_int, isi_str, isi_tup, isi_lst, isi_dK, isi_dT, we_ix, we_slc, we_rev, we_me, we_frz, we_rng, wf_rt, wf_nx, wr_ok, wr_opt, wr_grd, wr_err, asgD, deref_int, deref_tup, deref_lst, deref_str, deref_bl, deref_non, deref_dK, deref_dT, deref_scr, deref_fn, isObj, bin_add, bin_addS, bin_addT, bin_addL, bin_sub, bin_mul, bin_mulL, bin_mulT, bin_fdiv, bin_mod, bin_pow, cmp_eq, cmp_ne, cmp_lt, cmp_le, cmp_gt, cmp_ge, cmp_isB, cmp_isnotB, cmp_is, cmp_isnot, cmp_inn, cmp_notin, eq_int, eq_str, eq_bl, tru_non, tru_bl, tru_int, tru_tup, tru_lst, tru_dK, ix_tup, ix_lst, ix_dK, ix_dT, bi_lenT, bi_lenL, bi_lenS, bi_int, bi_intB, bi_tupT, bi_tupL, bi_lisT, bi_lisL, bi_repr, bi_all, bi_any, bi_sum, bi_max, bi_min, bi_abs, bi_gcd, in_lst, in_tup, in_dK, in_dT, get_dKi, get_dKs, get_dTt, put_dKi, put_dKs, put_dTt, put_lst, key_int, key_str, keys_nil, keys_cons, slc_tup, slc_lst, slc_scr, end_t, end_f, ty_app, ty_pop, ty_ext, ty_getK, ty_getT, ok_int, ok_str, ok_non, isNop, and_assoc, at_0, at_1, at_2, at_3]
    refine ⟨1 + r, by simp, by omega, by omega, d1, rfl, m1.mono (by omega)⟩
  have lb : ∀ y ∈ l, 1 ≤ y ∧ y ≤ 4 := fun y hy => by
    obtain ⟨t, ht⟩ := List.mem_iff_getElem?.mp hy
    exact l2 t y ht
  refine ⟨_, bin_addL.trans (if_pos (by simp; unfold szL; omega)), ?_⟩
  rw [if_neg (by simp)]
  refine ⟨_, rfl, ?_⟩
  have ec : (D.lst ([.int 1] ++ l.map fun (n : Nat) => D.int n)) = cntD (1 :: l) := rfl
  rw [ec]
  have cb : ∀ c ∈ (1 :: l), 1 ≤ c ∧ c ≤ 4 := fun c hc => by
    rcases List.mem_cons.mp hc with q | q
    · rw [q]; omega
    · exact lb c q
  have cl : (1 :: l).length = many := by simp [l1]; omega
  generalize hcs : (1 :: l) = counts at *
  have c0 : counts.getD 0 0 = 1 := by rw [← hcs]; rfl
  rw [nxt_nx, ws_cons, ws_asg, we_lst]
  refine wl_nil.mpr ?_
  refine ⟨by unfold szL; decide, ?_⟩
  rw [if_pos rfl, List.length_set]
  refine ⟨_, rfl, ?_⟩
  rw [nxt_nx, ws_cons]
  refine ws_forW (I := fun n σ h' => ∃ (levs : List (List Sta)) (d' : D) (J : MH) (x7 x8 x9 x10 x11 : Option D), σ = [some (.ref i), some (natsD sizes), some (.int many), some (.lst endsD), some (cntD counts), none, some (.ref h.length), x7, x8, x9, x10, x11] ∧
    h' = h.set i d' ++ .lst (levs.map levD) :: J ∧ levs.length = n ∧ LvOk sizes counts many levs ∧ Mach6 (b + 10 + 60 * n) d') ((List.range many).map fun (n : Nat) => D.int n) ?_ ?_ ?_
  · rw [we_rng, wl_cons, we_var]
    refine ⟨_, rfl, ?_⟩
    refine wl_nil.mpr ?_
    refine ⟨_, rng_nat (n := many) (by omega), rfl, [], d', [], _, _, _, _, _, rfl, rfl, rfl, ⟨fun t lv e => by simp at e⟩, m'.mono (by omega)⟩
  · rintro n x σ h' hx ⟨levs, d2, J, x7, x8, x9, x10, x11, rfl, rfl, rfl, lo, m2⟩
    have ht : levs.length < many := by
      have := (List.getElem?_eq_some_iff.mp hx).1
      simpa using this
    rw [List.getElem?_map, List.getElem?_range ht] at hx
    cases hx
    refine ⟨_, rfl, ?_⟩
    refine s_level (b := b + 10 + 60 * levs.length) hl m2 (by omega) s1 s3 ht (by omega) cl cb lo fun lv d3 e y8 y9 y10 y11 lo2 m3 => ?_
    refine ⟨levs ++ [lv], d3, J ++ [e], _, _, _, _, _, rfl, rfl, by simp, lo2, m3.mono (by omega)⟩
  · rintro σ h' ⟨levs, d2, J, x7, x8, x9, x10, x11, rfl, rfl, hn, lo, m2⟩
    have hn' : levs.length = many := by simpa using hn
    have wf := lo.wf hn' hm cl c0 cb s1 s2 s3
    have dL : deref (h.set i d2 ++ .lst (levs.map levD) :: J) (.ref h.length) = .lst (levs.map levD) := deref_ref get_L rfl
    rw [nxt_nx]
    try simp [ws_nil, ws_pass, ws_brk, ws_cnt, ws_ret0, ws_cons, nxt_rt, nxt_bk, nxt_ct, ws_asg, ws_put, ws_expr, ws_ret, ws_ite, we_var, we_int, we_str, we_bl, we_non, we_nopart, we_gint, we_gfn, we_bin, we_neg, we_cmp, we_chain, we_andd, we_orr, we_one, we_nott, we_ite, wl_nil, wl_cons, we_tup, we_lst, we_dct, we_dsp, we_call, we_callv, we_bi, we_isi, isi_non, isi_bl, isi_int, isi_str, isi_tup, isi_lst, isi_dK, isi_dT, we_ix, we_slc, we_rev, we_me, we_frz, we_rng, wf_rt, wf_nx, wr_ok, wr_opt, wr_grd, wr_err, asgD, deref_int, deref_tup, deref_lst, deref_str, deref_bl, deref_non, deref_dK, deref_dT, deref_scr, deref_fn, isObj, bin_add, bin_addS, bin_addT, bin_addL, bin_sub, bin_mul, bin_mulL, bin_mulT, bin_fdiv, bin_mod, bin_pow, cmp_eq, cmp_ne, cmp_lt, cmp_le, cmp_gt, cmp_ge, cmp_isB, cmp_isnotB, cmp_is, cmp_isnot, cmp_inn, cmp_notin, eq_int, eq_str, eq_bl, tru_non, tru_bl, tru_int, tru_tup, tru_lst, tru_dK, ix_tup, ix_lst, ix_dK, ix_dT, bi_lenT, bi_lenL, bi_lenS, bi_int, bi_intB, bi_tupT, bi_tupL, bi_lisT, bi_lisL, bi_repr, bi_all, bi_any, bi_sum, bi_max, bi_min, bi_abs, bi_gcd, in_lst, in_tup, in_dK, in_dT, get_dKi, get_dKs, get_dTt, put_dKi, put_dKs, put_dTt, put_lst, key_int, key_str, keys_nil, keys_cons, slc_tup, slc_lst, slc_scr, end_t, end_f, ty_app, ty_pop, ty_ext, ty_getK, ty_getT, ok_int, ok_str, ok_non, isNop, and_assoc, at_0, at_1, at_2, at_3, dL, szL]
    have okl : ∀ n, D.okRs n (levs.map levD) = true := fun n => okRs_levs fun lv hm s hs => by
      obtain ⟨t, ht⟩ := List.mem_iff_getElem?.mp hm
      exact ⟨_, _, ((lo.ok t lv ht).2 s hs).1⟩
    refine wr_fin2 ?_ ?_ (w levs d2 wf hn' (m2.mono (by omega)))
    · show (D.okR h.length (natsD sizes) && (D.okR h.length (.tup (levs.map levD)) && true)) = true
      have e1 : D.okR h.length (natsD sizes) = true := by unfold natsD D.okR; exact okRs_nats _ _
      have e2 : D.okR h.length (.tup (levs.map levD)) = true := by unfold D.okR; exact okl _
      rw [e1, e2]; rfl
    · rw [List.take_append_of_le_length (by simp), List.take_of_length_le (by simp)]
end
end Lw
set_option maxHeartbeats 800000
/-! k59: all words; rows. -/
namespace Lw
open Mi
def wordsD (l : List (List Nat)) : D := .lst (l.map natsD)
/-- right words of one length -/
def WsOk (sizes : List Nat) (n : Nat) (l : List (List Nat)) : Prop := 0 < l.length ∧ l.length ≤ 3 ^ n ∧ ∀ u ∈ l, u.length = n ∧ RW sizes 0 u
theorem RW.snoc {sizes : List Nat} {u : List Nat} {d : Nat} (h : RW sizes 0 u) (hd : d < sizes.getD (u.length % sizes.length) 0) : RW sizes 0 (u ++ [d]) := fun i x e => by
  by_cases c : i < u.length
  · rw [List.getElem?_append_left c] at e
    exact h i x e
  · rw [List.getElem?_append_right (by omega)] at e
    have z : i - u.length = 0 := by
      by_cases q : i - u.length = 0
      · exact q
      · rw [List.getElem?_eq_none (by simp; omega)] at e; cases e
    rw [z] at e
    cases e
    have : i = u.length := by omega
    rw [this, Nat.zero_add]; exact hd
section
variable {k b i : Nat} {d : D} {h : MH} {Q : D → MH → Prop}
theorem okR_nats (n : Nat) (l : List Nat) : D.okR n (natsD l) = true := by unfold natsD D.okR; exact okRs_nats _ _
theorem okRs_words (n : Nat) : ∀ l : List (List Nat), D.okRs n (l.map natsD) = true
  | [] => rfl
  | u :: l => by
    show (D.okR n (natsD u) && D.okRs n (l.map natsD)) = true
    rw [okR_nats, okRs_words n l]; rfl
theorem c_words {sizes : List Nat} {n : Nat} (hn : n ≤ 5) (s1 : 0 < sizes.length) (s3 : ∀ n ∈ sizes, 2 ≤ n ∧ n ≤ 3) (w : ∀ l, WsOk sizes n l → Q (wordsD l) h) : Wc (callF prg (k + 1)) 20 [natsD sizes, .int n] h Q := by
  refine wc_at (fn := f_law_words) rfl rfl ?_
  show Ws _ (.cons _ (.cons _ _)) _ _ _
  rw [ws_cons]
  try simp [ws_nil, ws_pass, ws_brk, ws_cnt, ws_ret0, ws_cons, nxt_rt, nxt_bk, nxt_ct, ws_asg, ws_put, ws_expr, ws_ret, ws_ite, we_var, we_int, we_str, we_bl, we_non, we_nopart, we_gint, we_gfn, we_bin, we_neg, we_cmp, we_chain, we_andd, we_orr, we_one, we_nott, we_ite, wl_nil, wl_cons, we_tup, we_lst, we_dct, we_dsp, we_call, we_callv, we_bi, we_isi, isi_non, isi_bl, isi_int, isi_str, isi_tup, isi_lst, isi_dK, isi_dT, we_ix, we_slc, we_rev, we_me, we_frz, we_rng, wf_rt, wf_nx, wr_ok, wr_opt, wr_grd, wr_err, asgD, deref_int, deref_tup, deref_lst, deref_str, deref_bl, deref_non, deref_dK, deref_dT, deref_scr, deref_fn, isObj, bin_add, bin_addS, bin_addT, bin_addL, bin_sub, bin_mul, bin_mulL, bin_mulT, bin_fdiv, bin_mod, bin_pow, cmp_eq, cmp_ne, cmp_lt, cmp_le, cmp_gt, cmp_ge, cmp_isB, cmp_isnotB, cmp_is, cmp_isnot, cmp_inn, cmp_notin, eq_int, eq_str, eq_bl, tru_non, tru_bl, tru_int, tru_tup, tru_lst, tru_dK, ix_tup, ix_lst, ix_dK, ix_dT, bi_lenT, bi_lenL, bi_lenS, bi_int, bi_intB, bi_tupT, bi_tupL, bi_lisT, bi_lisL, bi_repr, bi_all, bi_any, bi_sum, bi_max, bi_min, bi_abs, bi_gcd, in_lst, in_tup, in_dK, in_dT, get_dKi, get_dKs, get_dTt, put_dKi, put_dKs, put_dTt, put_lst, key_int, key_str, keys_nil, keys_cons, slc_tup, slc_lst, slc_scr, end_t, end_f, ty_app, ty_pop, ty_ext, ty_getK, ty_getT, ok_int, ok_str, ok_non, isNop, and_assoc, at_0, at_1, at_2, at_3, szL]
  rw [nxt_nx, ws_cons]
  refine ws_forW (I := fun j σ h' => ∃ (l : List (List Nat)) (x3 x4 x5 x6 : Option D), σ = [some (natsD sizes), some (.int n), some (wordsD l), x3, x4, x5, x6] ∧ h' = h ∧ WsOk sizes j l) ((List.range n).map fun (n : Nat) => D.int n) ?_ ?_ ?_
  · refine We.mono (Q := fun w h1 => w = .lst ((List.range n).map fun (n : Nat) => D.int n) ∧ h1 = h) ?_ ?_
    · try simp [ws_nil, ws_pass, ws_brk, ws_cnt, ws_ret0, ws_cons, nxt_rt, nxt_bk, nxt_ct, ws_asg, ws_put, ws_expr, ws_ret, ws_ite, we_var, we_int, we_str, we_bl, we_non, we_nopart, we_gint, we_gfn, we_bin, we_neg, we_cmp, we_chain, we_andd, we_orr, we_one, we_nott, we_ite, wl_nil, wl_cons, we_tup, we_lst, we_dct, we_dsp, we_call, we_callv, we_bi, we_isi, isi_non, isi_bl, isi_int, isi_str, isi_tup, isi_lst, isi_dK, isi_dT, we_ix, we_slc, we_rev, we_me, we_frz, we_rng, wf_rt, wf_nx, wr_ok, wr_opt, wr_grd, wr_err, asgD, deref_int, deref_tup, deref_lst, deref_str, deref_bl, deref_non, deref_dK, deref_dT, deref_scr, deref_fn, isObj, bin_add, bin_addS, bin_addT, bin_addL, bin_sub, bin_mul, bin_mulL, bin_mulT, bin_fdiv, bin_mod, bin_pow, cmp_eq, cmp_ne, cmp_lt, cmp_le, cmp_gt, cmp_ge, cmp_isB, cmp_isnotB, cmp_is, cmp_isnot, cmp_inn, cmp_notin, eq_int, eq_str, eq_bl, tru_non, tru_bl, tru_int, tru_tup, tru_lst, tru_dK, ix_tup, ix_lst, ix_dK, ix_dT, bi_lenT, bi_lenL, bi_lenS, bi_int, bi_intB, bi_tupT, bi_tupL, bi_lisT, bi_lisL, bi_repr, bi_all, bi_any, bi_sum, bi_max, bi_min, bi_abs, bi_gcd, in_lst, in_tup, in_dK, in_dT, get_dKi, get_dKs, get_dTt, put_dKi, put_dKs, put_dTt, put_lst, key_int, key_str, keys_nil, keys_cons, slc_tup, slc_lst, slc_scr, end_t, end_f, ty_app, ty_pop, ty_ext, ty_getK, ty_getT, ok_int, ok_str, ok_non, isNop, and_assoc, at_0, at_1, at_2, at_3, rng_nat (n := n) (by omega)]
    · rintro _ _ ⟨rfl, rfl⟩
      refine ⟨rfl, [[]], _, _, _, _, rfl, rfl, by simp, by simp, fun u hu => ?_⟩
      have : u = [] := by simpa using hu
      subst this
      exact ⟨rfl, fun i d e => by simp at e⟩
  · rintro j x σ h' hx ⟨l, x3, x4, x5, x6, rfl, rfl, wl1, wl2, wl3⟩
    have ht : j < n := by
      have := (List.getElem?_eq_some_iff.mp hx).1
      simpa using this
    rw [List.getElem?_map, List.getElem?_range ht] at hx
    cases hx
    refine ⟨_, rfl, ?_⟩
    have p3 : 3 ^ j ≤ 81 := by
      have : j ≤ 4 := by omega
      calc 3 ^ j ≤ 3 ^ 4 := Nat.pow_le_pow_right (by decide) this
        _ = 81 := by decide
    have hm : j % sizes.length < sizes.length := Nat.mod_lt _ s1
    have hs := List.getElem?_eq_getElem hm
    have hg : ixD (natsD sizes) (.int ((j : Int) % (sizes.length : Int))) = some (.int (sizes[j % sizes.length] : Nat)) := by
      have := ix_nats hs; simpa using this
    have hsb := s3 _ (List.getElem_mem hm)
    generalize hsz : sizes[j % sizes.length] = sz at *
    try simp [ws_nil, ws_pass, ws_brk, ws_cnt, ws_ret0, ws_cons, nxt_rt, nxt_bk, nxt_ct, ws_asg, ws_put, ws_expr, ws_ret, ws_ite, we_var, we_int, we_str, we_bl, we_non, we_nopart, we_gint, we_gfn, we_bin, we_neg, we_cmp, we_chain, we_andd, we_orr, we_one, we_nott, we_ite, wl_nil, wl_cons, we_tup, we_lst, we_dct, we_dsp, we_call, we_callv, we_bi, we_isi, isi_non, isi_bl, isi_int, isi_str, isi_tup, isi_lst, isi_dK, isi_dT, we_ix, we_slc, we_rev, we_me, we_frz, we_rng, wf_rt, wf_nx, wr_ok, wr_opt, wr_grd, wr_err, asgD, deref_int, deref_tup, deref_lst, deref_str, deref_bl, deref_non, deref_dK, deref_dT, deref_scr, deref_fn, isObj, bin_add, bin_addS, bin_addT, bin_addL, bin_sub, bin_mul, bin_mulL, bin_mulT, bin_fdiv, bin_mod, bin_pow, cmp_eq, cmp_ne, cmp_lt, cmp_le, cmp_gt, cmp_ge, cmp_isB, cmp_isnotB, cmp_is, cmp_isnot, cmp_inn, cmp_notin, eq_int, eq_str, eq_bl, tru_non, tru_bl, tru_int, tru_tup, tru_lst, tru_dK, ix_tup, ix_lst, ix_dK, ix_dT, bi_lenT, bi_lenL, bi_lenS, bi_int, bi_intB, bi_tupT, bi_tupL, bi_lisT, bi_lisL, bi_repr, bi_all, bi_any, bi_sum, bi_max, bi_min, bi_abs, bi_gcd, in_lst, in_tup, in_dK, in_dT, get_dKi, get_dKs, get_dTt, put_dKi, put_dKs, put_dTt, put_lst, key_int, key_str, keys_nil, keys_cons, slc_tup, slc_lst, slc_scr, end_t, end_f, ty_app, ty_pop, ty_ext, ty_getK, ty_getT, ok_int, ok_str, ok_non, isNop, and_assoc, at_0, at_1, at_2, at_3, szL]
    rw [nxt_nx, ws_cons]
    refine ws_forW (I := fun j2 σ h2 => ∃ (l2 : List (List Nat)) (x5 x6 : Option D), σ = [some (natsD sizes), some (.int n), some (wordsD l), some (.int j), some (wordsD l2), x5, x6] ∧ h2 = h' ∧ l2.length = sz * j2 ∧ ∀ u ∈ l2, u.length = j + 1 ∧ RW sizes 0 u) (l.map natsD) ?_ ?_ ?_
    · refine We.mono (Q := fun w h1 => w = wordsD l ∧ h1 = h') ?_ ?_
      · try simp [ws_nil, ws_pass, ws_brk, ws_cnt, ws_ret0, ws_cons, nxt_rt, nxt_bk, nxt_ct, ws_asg, ws_put, ws_expr, ws_ret, ws_ite, we_var, we_int, we_str, we_bl, we_non, we_nopart, we_gint, we_gfn, we_bin, we_neg, we_cmp, we_chain, we_andd, we_orr, we_one, we_nott, we_ite, wl_nil, wl_cons, we_tup, we_lst, we_dct, we_dsp, we_call, we_callv, we_bi, we_isi, isi_non, isi_bl, isi_int, isi_str, isi_tup, isi_lst, isi_dK, isi_dT, we_ix, we_slc, we_rev, we_me, we_frz, we_rng, wf_rt, wf_nx, wr_ok, wr_opt, wr_grd, wr_err, asgD, deref_int, deref_tup, deref_lst, deref_str, deref_bl, deref_non, deref_dK, deref_dT, deref_scr, deref_fn, isObj, bin_add, bin_addS, bin_addT, bin_addL, bin_sub, bin_mul, bin_mulL, bin_mulT, bin_fdiv, bin_mod, bin_pow, cmp_eq, cmp_ne, cmp_lt, cmp_le, cmp_gt, cmp_ge, cmp_isB, cmp_isnotB, cmp_is, cmp_isnot, cmp_inn, cmp_notin, eq_int, eq_str, eq_bl, tru_non, tru_bl, tru_int, tru_tup, tru_lst, tru_dK, ix_tup, ix_lst, ix_dK, ix_dT, bi_lenT, bi_lenL, bi_lenS, bi_int, bi_intB, bi_tupT, bi_tupL, bi_lisT, bi_lisL, bi_repr, bi_all, bi_any, bi_sum, bi_max, bi_min, bi_abs, bi_gcd, in_lst, in_tup, in_dK, in_dT, get_dKi, get_dKs, get_dTt, put_dKi, put_dKs, put_dTt, put_lst, key_int, key_str, keys_nil, keys_cons, slc_tup, slc_lst, slc_scr, end_t, end_f, ty_app, ty_pop, ty_ext, ty_getK, ty_getT, ok_int, ok_str, ok_non, isNop, and_assoc, at_0, at_1, at_2, at_3]
      · rintro _ _ ⟨rfl, rfl⟩
        exact ⟨rfl, [], _, _, rfl, rfl, rfl, by simp⟩
    · rintro j2 x σ h2 hx ⟨l2, x5, x6, rfl, rfl, e1, e2⟩
      rw [List.getElem?_map] at hx
      cases hu : l[j2]? with
      | none => rw [hu] at hx; cases hx
      | some u =>
        rw [hu] at hx
        cases hx
        have hj2 := lt_of_get' hu
        obtain ⟨ul, ur⟩ := wl3 u (List.mem_of_getElem? hu)
        refine ⟨_, rfl, ?_⟩
        have b2 : l2.length ≤ 243 := by
          rw [e1]
          calc sz * j2 ≤ 3 * 81 := Nat.mul_le_mul hsb.2 (by omega)
            _ = 243 := by decide
        rw [ws_cons, ws_asg, we_bin, we_var]
        refine ⟨_, rfl, ?_⟩
        refine we_mapS (List.range sz) (fun n : Nat => D.int n) (fun n : Nat => natsD (u ++ [n])) ?_ (by rw [List.length_range]; unfold szL; omega) ?_ ?_
        · try simp [ws_nil, ws_pass, ws_brk, ws_cnt, ws_ret0, ws_cons, nxt_rt, nxt_bk, nxt_ct, ws_asg, ws_put, ws_expr, ws_ret, ws_ite, we_var, we_int, we_str, we_bl, we_non, we_nopart, we_gint, we_gfn, we_bin, we_neg, we_cmp, we_chain, we_andd, we_orr, we_one, we_nott, we_ite, wl_nil, wl_cons, we_tup, we_lst, we_dct, we_dsp, we_call, we_callv, we_bi, we_isi, isi_non, isi_bl, isi_int, isi_str, isi_tup, isi_lst, isi_dK, isi_dT, we_ix, we_slc, we_rev, we_me, we_frz, we_rng, wf_rt, wf_nx, wr_ok, wr_opt, wr_grd, wr_err, asgD, deref_int, deref_tup, deref_lst, deref_str, deref_bl, deref_non, deref_dK, deref_dT, deref_scr, deref_fn, isObj, bin_add, bin_addS, bin_addT, bin_addL, bin_sub, bin_mul, bin_mulL, bin_mulT, bin_fdiv, bin_mod, bin_pow, cmp_eq, cmp_ne, cmp_lt, cmp_le, cmp_gt, cmp_ge, cmp_isB, cmp_isnotB, cmp_is, cmp_isnot, cmp_inn, cmp_notin, eq_int, eq_str, eq_bl, tru_non, tru_bl, tru_int, tru_tup, tru_lst, tru_dK, ix_tup, ix_lst, ix_dK, ix_dT, bi_lenT, bi_lenL, bi_lenS, bi_int, bi_intB, bi_tupT, bi_tupL, bi_lisT, bi_lisL, bi_repr, bi_all, bi_any, bi_sum, bi_max, bi_min, bi_abs, bi_gcd, in_lst, in_tup, in_dK, in_dT, get_dKi, get_dKs, get_dTt, put_dKi, put_dKs, put_dTt, put_lst, key_int, key_str, keys_nil, keys_cons, slc_tup, slc_lst, slc_scr, end_t, end_f, ty_app, ty_pop, ty_ext, ty_getK, ty_getT, ok_int, ok_str, ok_non, isNop, and_assoc, at_0, at_1, at_2, at_3, de_nats, len_nats, s1, hg, rng_nat (n := sz) (by omega)]
          rfl
        · intro t x hx
          refine ⟨_, rfl, ?_⟩
          have hul : u.length + 1 ≤ szL := by unfold szL; omega
          try simp [ws_nil, ws_pass, ws_brk, ws_cnt, ws_ret0, ws_cons, nxt_rt, nxt_bk, nxt_ct, ws_asg, ws_put, ws_expr, ws_ret, ws_ite, we_var, we_int, we_str, we_bl, we_non, we_nopart, we_gint, we_gfn, we_bin, we_neg, we_cmp, we_chain, we_andd, we_orr, we_one, we_nott, we_ite, wl_nil, wl_cons, we_tup, we_lst, we_dct, we_dsp, we_call, we_callv, we_bi, we_isi, isi_non, isi_bl, isi_int, isi_str, isi_tup, isi_lst, isi_dK, isi_dT, we_ix, we_slc, we_rev, we_me, we_frz, we_rng, wf_rt, wf_nx, wr_ok, wr_opt, wr_grd, wr_err, asgD, deref_int, deref_tup, deref_lst, deref_str, deref_bl, deref_non, deref_dK, deref_dT, deref_scr, deref_fn, isObj, bin_add, bin_addS, bin_addT, bin_addL, bin_sub, bin_mul, bin_mulL, bin_mulT, bin_fdiv, bin_mod, bin_pow, cmp_eq, cmp_ne, cmp_lt, cmp_le, cmp_gt, cmp_ge, cmp_isB, cmp_isnotB, cmp_is, cmp_isnot, cmp_inn, cmp_notin, eq_int, eq_str, eq_bl, tru_non, tru_bl, tru_int, tru_tup, tru_lst, tru_dK, ix_tup, ix_lst, ix_dK, ix_dT, bi_lenT, bi_lenL, bi_lenS, bi_int, bi_intB, bi_tupT, bi_tupL, bi_lisT, bi_lisL, bi_repr, bi_all, bi_any, bi_sum, bi_max, bi_min, bi_abs, bi_gcd, in_lst, in_tup, in_dK, in_dT, get_dKi, get_dKs, get_dTt, put_dKi, put_dKs, put_dTt, put_lst, key_int, key_str, keys_nil, keys_cons, slc_tup, slc_lst, slc_scr, end_t, end_f, ty_app, ty_pop, ty_ext, ty_getK, ty_getT, ok_int, ok_str, ok_non, isNop, and_assoc, at_0, at_1, at_2, at_3, wipeD, natsD, hul]
          unfold szL
          decide
        · rw [if_neg (by decide)]
          refine ⟨_, bin_addL.trans (if_pos (by simp; unfold szL; omega)), ?_⟩
          rw [if_neg (by simp)]
          have ew : D.lst (l2.map natsD ++ (List.range sz).map fun n => natsD (u ++ [n])) = wordsD (l2 ++ (List.range sz).map fun n => u ++ [n]) := by
            unfold wordsD
            rw [List.map_append, List.map_map]; rfl
          rw [ew]
          refine ⟨_, rfl, ?_⟩
          rw [nxt_nx, ws_nil]
          refine ⟨l2 ++ (List.range sz).map fun n => u ++ [n], _, _, rfl, rfl, ?_, fun v hv => ?_⟩
          · rw [List.length_append, List.length_map, List.length_range, e1, Nat.mul_succ]
          · rcases List.mem_append.mp hv with q | q
            · exact e2 v q
            · obtain ⟨m, hm2, rfl⟩ := List.mem_map.mp q
              refine ⟨by simp [ul], ur.snoc ?_⟩
              rw [ul, getD_some hs]
              simpa using hm2
    · rintro σ h2 ⟨l2, x5, x6, rfl, rfl, e1, e2⟩
      rw [List.length_map] at e1
      rw [nxt_nx]
      try simp [ws_nil, ws_pass, ws_brk, ws_cnt, ws_ret0, ws_cons, nxt_rt, nxt_bk, nxt_ct, ws_asg, ws_put, ws_expr, ws_ret, ws_ite, we_var, we_int, we_str, we_bl, we_non, we_nopart, we_gint, we_gfn, we_bin, we_neg, we_cmp, we_chain, we_andd, we_orr, we_one, we_nott, we_ite, wl_nil, wl_cons, we_tup, we_lst, we_dct, we_dsp, we_call, we_callv, we_bi, we_isi, isi_non, isi_bl, isi_int, isi_str, isi_tup, isi_lst, isi_dK, isi_dT, we_ix, we_slc, we_rev, we_me, we_frz, we_rng, wf_rt, wf_nx, wr_ok, wr_opt, wr_grd, wr_err, asgD, deref_int, deref_tup, deref_lst, deref_str, deref_bl, deref_non, deref_dK, deref_dT, deref_scr, deref_fn, isObj, bin_add, bin_addS, bin_addT, bin_addL, bin_sub, bin_mul, bin_mulL, bin_mulT, bin_fdiv, bin_mod, bin_pow, cmp_eq, cmp_ne, cmp_lt, cmp_le, cmp_gt, cmp_ge, cmp_isB, cmp_isnotB, cmp_is, cmp_isnot, cmp_inn, cmp_notin, eq_int, eq_str, eq_bl, tru_non, tru_bl, tru_int, tru_tup, tru_lst, tru_dK, ix_tup, ix_lst, ix_dK, ix_dT, bi_lenT, bi_lenL, bi_lenS, bi_int, bi_intB, bi_tupT, bi_tupL, bi_lisT, bi_lisL, bi_repr, bi_all, bi_any, bi_sum, bi_max, bi_min, bi_abs, bi_gcd, in_lst, in_tup, in_dK, in_dT, get_dKi, get_dKs, get_dTt, put_dKi, put_dKs, put_dTt, put_lst, key_int, key_str, keys_nil, keys_cons, slc_tup, slc_lst, slc_scr, end_t, end_f, ty_app, ty_pop, ty_ext, ty_getK, ty_getT, ok_int, ok_str, ok_non, isNop, and_assoc, at_0, at_1, at_2, at_3]
      rw [nxt_nx, ws_nil]
      refine ⟨l2, ⟨_, _, _, _, rfl⟩, rfl, ?_, ?_, e2⟩
      · rw [e1]; exact Nat.mul_pos (by omega) wl1
      · rw [e1, Nat.pow_succ, Nat.mul_comm]
        exact Nat.mul_le_mul wl2 hsb.2
  · rintro σ h' ⟨l, x3, x4, x5, x6, rfl, rfl, wo⟩
    rw [List.length_map, List.length_range] at wo
    rw [nxt_nx]
    try simp [ws_nil, ws_pass, ws_brk, ws_cnt, ws_ret0, ws_cons, nxt_rt, nxt_bk, nxt_ct, ws_asg, ws_put, ws_expr, ws_ret, ws_ite, we_var, we_int, we_str, we_bl, we_non, we_nopart, we_gint, we_gfn, we_bin, we_neg, we_cmp, we_chain, we_andd, we_orr, we_one, we_nott, we_ite, wl_nil, wl_cons, we_tup, we_lst, we_dct, we_dsp, we_call, we_callv, we_bi, we_isi, isi_non, isi_bl, isi_int, isi_str, isi_tup, isi_lst, isi_dK, isi_dT, we_ix, we_slc, we_rev, we_me, we_frz, we_rng, wf_rt, wf_nx, wr_ok, wr_opt, wr_grd, wr_err, asgD, deref_int, deref_tup, deref_lst, deref_str, deref_bl, deref_non, deref_dK, deref_dT, deref_scr, deref_fn, isObj, bin_add, bin_addS, bin_addT, bin_addL, bin_sub, bin_mul, bin_mulL, bin_mulT, bin_fdiv, bin_mod, bin_pow, cmp_eq, cmp_ne, cmp_lt, cmp_le, cmp_gt, cmp_ge, cmp_isB, cmp_isnotB, cmp_is, cmp_isnot, cmp_inn, cmp_notin, eq_int, eq_str, eq_bl, tru_non, tru_bl, tru_int, tru_tup, tru_lst, tru_dK, ix_tup, ix_lst, ix_dK, ix_dT, bi_lenT, bi_lenL, bi_lenS, bi_int, bi_intB, bi_tupT, bi_tupL, bi_lisT, bi_lisL, bi_repr, bi_all, bi_any, bi_sum, bi_max, bi_min, bi_abs, bi_gcd, in_lst, in_tup, in_dK, in_dT, get_dKi, get_dKs, get_dTt, put_dKi, put_dKs, put_dTt, put_lst, key_int, key_str, keys_nil, keys_cons, slc_tup, slc_lst, slc_scr, end_t, end_f, ty_app, ty_pop, ty_ext, ty_getK, ty_getT, ok_int, ok_str, ok_non, isNop, and_assoc, at_0, at_1, at_2, at_3]
    refine wr_fin ?_ take_self (w l wo)
    unfold wordsD D.okR
    exact okRs_words _ _
end
end Lw
set_option maxHeartbeats 800000
/-! k59: told rows are told what is due; readers in turns. -/
namespace Lw
open Mi
section
variable {k b i : Nat} {d : D} {h : MH} {Q : D → MH → Prop} {sizes : List Nat} {levs : List (List Sta)}
theorem toldR_text {u : List Nat} {v : D} (wf : WfM sizes levs) (hu : RW sizes 0 u) (ht : stAt levs (walk levs 0 0 u).2 (walk levs 0 0 u).1 = .told v) : ∃ x, reprD (toldR levs u v) = some (.str x) := by
  have p := (walk_pos wf u 0 0 (Pos.first wf) hu).1
  rw [Nat.zero_add] at p
  have ok := p.ok wf
  rw [ht] at ok
  have dt : Dat 1 102 (.int ((walk levs 0 0 u).2 : Nat)) := Dat.nat (m := 100) (p.small wf).1 (by decide)
  have dd : Dat 2 2000 (toldR levs u v) := (Dat.tup (Dats.cons (IsV.dat ok) (Dats.cons dt .nil))).mono (by decide) (by decide)
  exact dd.text (by decide) (by decide)
theorem c_rows_right (hi : h[i]? = some d) (m : Mach6 b d) (hb : b < 10000000) (wf : WfM sizes levs) (w : ∀ d', Mach6 (b + 1000) d' → Q (.bl true) (h.set i d')) : Wc (callF prg (k + 4)) 26 [.ref i, macD sizes levs] h Q := by
  have hl := lt_of_get hi
  have ll : biD .len [levsD levs] = some (.int levs.length) := by unfold levsD; rw [bi_lenT, List.length_map]
  refine wc_at (fn := f_law_rows_right) rfl rfl ?_
  show Ws _ (.cons _ (.cons _ _)) _ _ _
  rw [ws_cons]
  try simp [ws_nil, ws_pass, ws_brk, ws_cnt, ws_ret0, ws_cons, nxt_rt, nxt_bk, nxt_ct, ws_asg, ws_put, ws_expr, ws_ret, ws_ite, we_var, we_int, we_str, we_bl, we_non, we_nopart, we_gint, we_gfn, we_bin, we_neg, we_cmp, we_chain, we_andd, we_orr, we_one, we_nott, we_ite, wl_nil, wl_cons, we_tup, we_lst, we_dct, we_dsp, we_call, we_callv, we_bi, we_isi, isi_non, isi_bl, isi_int, isi_str, isi_tup, isi_lst, isi_dK, isi_dT, we_ix, we_slc, we_rev, we_me, we_frz, we_rng, wf_rt, wf_nx, wr_ok, wr_opt, wr_grd, wr_err, asgD, deref_int, deref_tup, deref_lst, deref_str, deref_bl, deref_non, deref_dK, deref_dT, deref_scr, deref_fn, isObj, bin_add, bin_addS, bin_addT, bin_addL, bin_sub, bin_mul, bin_mulL, bin_mulT, bin_fdiv, bin_mod, bin_pow, cmp_eq, cmp_ne, cmp_lt, cmp_le, cmp_gt, cmp_ge, cmp_isB, cmp_isnotB, cmp_is, cmp_isnot, cmp_inn, cmp_notin, eq_int, eq_str, eq_bl, tru_non, tru_bl, tru_int, tru_tup, tru_lst, tru_dK, ix_tup, ix_lst, ix_dK, ix_dT, bi_lenT, bi_lenL, bi_lenS, bi_int, bi_intB, bi_tupT, bi_tupL, bi_lisT, bi_lisL, bi_repr, bi_all, bi_any, bi_sum, bi_max, bi_min, bi_abs, bi_gcd, in_lst, in_tup, in_dK, in_dT, get_dKi, get_dKs, get_dTt, put_dKi, put_dKs, put_dTt, put_lst, key_int, key_str, keys_nil, keys_cons, slc_tup, slc_lst, slc_scr, end_t, end_f, ty_app, ty_pop, ty_ext, ty_getK, ty_getT, ok_int, ok_str, ok_non, isNop, and_assoc, at_0, at_1, at_2, at_3, f_law_rows_right, de_mac, ix_mac0, ix_mac1, de_levs, ll, szL]
  rw [nxt_nx, ws_cons, ws_asg, we_bi, wl_cons]
  refine we_lcI (I := fun t acc h2 => ∃ (rows : List Row) (d' : D), acc = rows.map rowD ∧ rows.length = t ∧ (∀ (j : Nat) (r : Row), rows[j]? = some r → 0 < r.2.length ∧ ∀ d, d ∈ r.1 ∨ d ∈ r.2 → d < sizes.getD j 0) ∧ h2 = h.set i d' ∧ Mach6 (b + 10 * t) d') ?_
  rw [we_var]
  have s2 := wf.s2
  refine ⟨_, rfl, sizes.map (fun (n : Nat) => D.int n), rfl, by rw [List.length_map]; unfold szL; omega, ⟨[], d, rfl, rfl, by simp, (set_same hi).symm, m⟩, ?_, ?_⟩
  · rintro t x acc h2 hx ⟨rows, d', rfl, rfl, hr, rfl, m'⟩
    rw [List.getElem?_map] at hx
    cases hs : sizes[rows.length]? with
    | none => rw [hs] at hx; cases hx
    | some sz =>
      rw [hs] at hx
      cases hx
      have hsb := wf.s3 _ (List.mem_of_getElem? hs)
      have htl := lt_of_get' hs
      refine ⟨_, rfl, ?_⟩
      rw [we_bl]
      refine ⟨true, rfl, ?_⟩
      rw [if_pos rfl, we_call, wl_cons, we_var]
      refine ⟨_, rfl, ?_⟩
      rw [wl_cons, we_var]
      refine ⟨_, rfl, ?_⟩
      refine wl_nil.mpr ?_
      refine c_row (size := sz) ⟨by omega, by omega⟩ (get_set hl) m' (by omega) fun r d2 r1 r2 r3 r4 m2 => ?_
      refine ⟨rows ++ [r], d2, by simp, by simp, fun j q hq => ?_, by rw [List.set_set], m2.mono (by omega)⟩
      by_cases c : j < rows.length
      · rw [List.getElem?_append_left c] at hq
        exact hr j q hq
      · rw [List.getElem?_append_right (by omega)] at hq
        have z : j - rows.length = 0 := by
          by_cases q : j - rows.length = 0
          · exact q
          · rw [List.getElem?_eq_none (by simp; omega)] at hq; cases hq
        rw [z] at hq
        cases hq
        have e : j = rows.length := by omega
        rw [e, getD_some hs]
        exact ⟨r1, fun d hd => r4 d hd⟩
  rintro L h2 ⟨rows, d', rfl, hr1, hr2, rfl, m'⟩
  rw [List.length_map] at hr1 m'
  have wr : WfR sizes rows := ⟨hr1, hr2⟩
  rw [if_neg (by decide), wl_nil]
  refine ⟨_, rfl, ?_⟩
  rw [if_neg (by simp)]
  refine ⟨_, rfl, ?_⟩
  show nxt _ _ _ _ [some (.ref i), some (macD sizes levs), some (natsD sizes), some (.int levs.length), some (rowsD rows), none, none, none] _
  rw [nxt_nx, ws_cons, ws_asg]
  have L2 := wf.l2
  refine we_mapS (List.range levs.length) (fun n : Nat => D.int n) (fun t : Nat => D.int (entry (rows.getD (t % sizes.length) ([], [])) (t / sizes.length) : Nat)) ?_ (by rw [List.length_range]; unfold szL; omega) ?_ ?_
  · try simp [ws_nil, ws_pass, ws_brk, ws_cnt, ws_ret0, ws_cons, nxt_rt, nxt_bk, nxt_ct, ws_asg, ws_put, ws_expr, ws_ret, ws_ite, we_var, we_int, we_str, we_bl, we_non, we_nopart, we_gint, we_gfn, we_bin, we_neg, we_cmp, we_chain, we_andd, we_orr, we_one, we_nott, we_ite, wl_nil, wl_cons, we_tup, we_lst, we_dct, we_dsp, we_call, we_callv, we_bi, we_isi, isi_non, isi_bl, isi_int, isi_str, isi_tup, isi_lst, isi_dK, isi_dT, we_ix, we_slc, we_rev, we_me, we_frz, we_rng, wf_rt, wf_nx, wr_ok, wr_opt, wr_grd, wr_err, asgD, deref_int, deref_tup, deref_lst, deref_str, deref_bl, deref_non, deref_dK, deref_dT, deref_scr, deref_fn, isObj, bin_add, bin_addS, bin_addT, bin_addL, bin_sub, bin_mul, bin_mulL, bin_mulT, bin_fdiv, bin_mod, bin_pow, cmp_eq, cmp_ne, cmp_lt, cmp_le, cmp_gt, cmp_ge, cmp_isB, cmp_isnotB, cmp_is, cmp_isnot, cmp_inn, cmp_notin, eq_int, eq_str, eq_bl, tru_non, tru_bl, tru_int, tru_tup, tru_lst, tru_dK, ix_tup, ix_lst, ix_dK, ix_dT, bi_lenT, bi_lenL, bi_lenS, bi_int, bi_intB, bi_tupT, bi_tupL, bi_lisT, bi_lisL, bi_repr, bi_all, bi_any, bi_sum, bi_max, bi_min, bi_abs, bi_gcd, in_lst, in_tup, in_dK, in_dT, get_dKi, get_dKs, get_dTt, put_dKi, put_dKs, put_dTt, put_lst, key_int, key_str, keys_nil, keys_cons, slc_tup, slc_lst, slc_scr, end_t, end_f, ty_app, ty_pop, ty_ext, ty_getK, ty_getT, ok_int, ok_str, ok_non, isNop, and_assoc, at_0, at_1, at_2, at_3, rng_nat (n := levs.length) (by omega)]
    rfl
  · intro t x hx
    have ht : t < levs.length := by
      have := lt_of_get' hx
      simpa using this
    rw [List.getElem?_range ht] at hx
    cases hx
    refine ⟨_, rfl, ?_⟩
    have ar := wr.at wf t
    have okr := (wr.ok _ _ ar).1
    have ar' : ixD (rowsD rows) (.int ((t : Int) % (sizes.length : Int))) = some (rowD (rows.getD (t % sizes.length) ([], []))) := by
      have := ix_rows ar; simpa using this
    have dv : ∀ j : Int, divOk j (sizes.length : Int) = true := fun j => divOk_lt (n := 62) (by have := wf.s1; omega) (by omega) (by decide)
    generalize rows.getD (t % sizes.length) ([], []) = rr at *
    try simp [ws_nil, ws_pass, ws_brk, ws_cnt, ws_ret0, ws_cons, nxt_rt, nxt_bk, nxt_ct, ws_asg, ws_put, ws_expr, ws_ret, ws_ite, we_var, we_int, we_str, we_bl, we_non, we_nopart, we_gint, we_gfn, we_bin, we_neg, we_cmp, we_chain, we_andd, we_orr, we_one, we_nott, we_ite, wl_nil, wl_cons, we_tup, we_lst, we_dct, we_dsp, we_call, we_callv, we_bi, we_isi, isi_non, isi_bl, isi_int, isi_str, isi_tup, isi_lst, isi_dK, isi_dT, we_ix, we_slc, we_rev, we_me, we_frz, we_rng, wf_rt, wf_nx, wr_ok, wr_opt, wr_grd, wr_err, asgD, deref_int, deref_tup, deref_lst, deref_str, deref_bl, deref_non, deref_dK, deref_dT, deref_scr, deref_fn, isObj, bin_add, bin_addS, bin_addT, bin_addL, bin_sub, bin_mul, bin_mulL, bin_mulT, bin_fdiv, bin_mod, bin_pow, cmp_eq, cmp_ne, cmp_lt, cmp_le, cmp_gt, cmp_ge, cmp_isB, cmp_isnotB, cmp_is, cmp_isnot, cmp_inn, cmp_notin, eq_int, eq_str, eq_bl, tru_non, tru_bl, tru_int, tru_tup, tru_lst, tru_dK, ix_tup, ix_lst, ix_dK, ix_dT, bi_lenT, bi_lenL, bi_lenS, bi_int, bi_intB, bi_tupT, bi_tupL, bi_lisT, bi_lisL, bi_repr, bi_all, bi_any, bi_sum, bi_max, bi_min, bi_abs, bi_gcd, in_lst, in_tup, in_dK, in_dT, get_dKi, get_dKs, get_dTt, put_dKi, put_dKs, put_dTt, put_lst, key_int, key_str, keys_nil, keys_cons, slc_tup, slc_lst, slc_scr, end_t, end_f, ty_app, ty_pop, ty_ext, ty_getK, ty_getT, ok_int, ok_str, ok_non, isNop, and_assoc, at_0, at_1, at_2, at_3, wipeD, de_nats, len_nats, de_rows, ar', wf.s1, dv]
    rw [show (t : Int) / (sizes.length : Int) = ((t / sizes.length : Nat) : Int) by simp]
    exact c_lentry okr ⟨rfl, rfl⟩
  rw [if_neg (by decide)]
  have eW : D.lst ((List.range levs.length).map fun t : Nat => D.int (entry (rows.getD (t % sizes.length) ([], [])) (t / sizes.length) : Nat)) = .lst ((rowWord sizes levs rows).map fun (n : Nat) => D.int n) := by
    unfold rowWord
    rw [List.map_map]; rfl
  rw [eW]
  refine ⟨_, rfl, ?_⟩
  have hu := rowWord_ok wf wr
  have ul : (rowWord sizes levs rows).length = levs.length := by unfold rowWord; simp
  obtain ⟨v, ht⟩ := walk_full wf (Pos.first wf) hu (by omega)
  rw [Nat.zero_add] at ht
  obtain ⟨x, ex⟩ := toldR_text wf hu ht
  rw [nxt_nx]
  try simp [ws_nil, ws_pass, ws_brk, ws_cnt, ws_ret0, ws_cons, nxt_rt, nxt_bk, nxt_ct, ws_asg, ws_put, ws_expr, ws_ret, ws_ite, we_var, we_int, we_str, we_bl, we_non, we_nopart, we_gint, we_gfn, we_bin, we_neg, we_cmp, we_chain, we_andd, we_orr, we_one, we_nott, we_ite, wl_nil, wl_cons, we_tup, we_lst, we_dct, we_dsp, we_call, we_callv, we_bi, we_isi, isi_non, isi_bl, isi_int, isi_str, isi_tup, isi_lst, isi_dK, isi_dT, we_ix, we_slc, we_rev, we_me, we_frz, we_rng, wf_rt, wf_nx, wr_ok, wr_opt, wr_grd, wr_err, asgD, deref_int, deref_tup, deref_lst, deref_str, deref_bl, deref_non, deref_dK, deref_dT, deref_scr, deref_fn, isObj, bin_add, bin_addS, bin_addT, bin_addL, bin_sub, bin_mul, bin_mulL, bin_mulT, bin_fdiv, bin_mod, bin_pow, cmp_eq, cmp_ne, cmp_lt, cmp_le, cmp_gt, cmp_ge, cmp_isB, cmp_isnotB, cmp_is, cmp_isnot, cmp_inn, cmp_notin, eq_int, eq_str, eq_bl, tru_non, tru_bl, tru_int, tru_tup, tru_lst, tru_dK, ix_tup, ix_lst, ix_dK, ix_dT, bi_lenT, bi_lenL, bi_lenS, bi_int, bi_intB, bi_tupT, bi_tupL, bi_lisT, bi_lisL, bi_repr, bi_all, bi_any, bi_sum, bi_max, bi_min, bi_abs, bi_gcd, in_lst, in_tup, in_dK, in_dT, get_dKi, get_dKs, get_dTt, put_dKi, put_dKs, put_dTt, put_lst, key_int, key_str, keys_nil, keys_cons, slc_tup, slc_lst, slc_scr, end_t, end_f, ty_app, ty_pop, ty_ext, ty_getK, ty_getT, ok_int, ok_str, ok_non, isNop, and_assoc, at_0, at_1, at_2, at_3]
  refine c_run_on wf wr ht ?_
  have dr : ∀ h, deref h (toldR levs (rowWord sizes levs rows) v) = toldR levs (rowWord sizes levs rows) v := fun _ => rfl
  try simp [ws_nil, ws_pass, ws_brk, ws_cnt, ws_ret0, ws_cons, nxt_rt, nxt_bk, nxt_ct, ws_asg, ws_put, ws_expr, ws_ret, ws_ite, we_var, we_int, we_str, we_bl, we_non, we_nopart, we_gint, we_gfn, we_bin, we_neg, we_cmp, we_chain, we_andd, we_orr, we_one, we_nott, we_ite, wl_nil, wl_cons, we_tup, we_lst, we_dct, we_dsp, we_call, we_callv, we_bi, we_isi, isi_non, isi_bl, isi_int, isi_str, isi_tup, isi_lst, isi_dK, isi_dT, we_ix, we_slc, we_rev, we_me, we_frz, we_rng, wf_rt, wf_nx, wr_ok, wr_opt, wr_grd, wr_err, asgD, deref_int, deref_tup, deref_lst, deref_str, deref_bl, deref_non, deref_dK, deref_dT, deref_scr, deref_fn, isObj, bin_add, bin_addS, bin_addT, bin_addL, bin_sub, bin_mul, bin_mulL, bin_mulT, bin_fdiv, bin_mod, bin_pow, cmp_eq, cmp_ne, cmp_lt, cmp_le, cmp_gt, cmp_ge, cmp_isB, cmp_isnotB, cmp_is, cmp_isnot, cmp_inn, cmp_notin, eq_int, eq_str, eq_bl, tru_non, tru_bl, tru_int, tru_tup, tru_lst, tru_dK, ix_tup, ix_lst, ix_dK, ix_dT, bi_lenT, bi_lenL, bi_lenS, bi_int, bi_intB, bi_tupT, bi_tupL, bi_lisT, bi_lisL, bi_repr, bi_all, bi_any, bi_sum, bi_max, bi_min, bi_abs, bi_gcd, in_lst, in_tup, in_dK, in_dT, get_dKi, get_dKs, get_dTt, put_dKi, put_dKs, put_dTt, put_lst, key_int, key_str, keys_nil, keys_cons, slc_tup, slc_lst, slc_scr, end_t, end_f, ty_app, ty_pop, ty_ext, ty_getK, ty_getT, ok_int, ok_str, ok_non, isNop, and_assoc, at_0, at_1, at_2, at_3, dr, ex]
  refine c_told_byL wf hu (by omega) ht ?_
  try simp [ws_nil, ws_pass, ws_brk, ws_cnt, ws_ret0, ws_cons, nxt_rt, nxt_bk, nxt_ct, ws_asg, ws_put, ws_expr, ws_ret, ws_ite, we_var, we_int, we_str, we_bl, we_non, we_nopart, we_gint, we_gfn, we_bin, we_neg, we_cmp, we_chain, we_andd, we_orr, we_one, we_nott, we_ite, wl_nil, wl_cons, we_tup, we_lst, we_dct, we_dsp, we_call, we_callv, we_bi, we_isi, isi_non, isi_bl, isi_int, isi_str, isi_tup, isi_lst, isi_dK, isi_dT, we_ix, we_slc, we_rev, we_me, we_frz, we_rng, wf_rt, wf_nx, wr_ok, wr_opt, wr_grd, wr_err, asgD, deref_int, deref_tup, deref_lst, deref_str, deref_bl, deref_non, deref_dK, deref_dT, deref_scr, deref_fn, isObj, bin_add, bin_addS, bin_addT, bin_addL, bin_sub, bin_mul, bin_mulL, bin_mulT, bin_fdiv, bin_mod, bin_pow, cmp_eq, cmp_ne, cmp_lt, cmp_le, cmp_gt, cmp_ge, cmp_isB, cmp_isnotB, cmp_is, cmp_isnot, cmp_inn, cmp_notin, eq_int, eq_str, eq_bl, tru_non, tru_bl, tru_int, tru_tup, tru_lst, tru_dK, ix_tup, ix_lst, ix_dK, ix_dT, bi_lenT, bi_lenL, bi_lenS, bi_int, bi_intB, bi_tupT, bi_tupL, bi_lisT, bi_lisL, bi_repr, bi_all, bi_any, bi_sum, bi_max, bi_min, bi_abs, bi_gcd, in_lst, in_tup, in_dK, in_dT, get_dKi, get_dKs, get_dTt, put_dKi, put_dKs, put_dTt, put_lst, key_int, key_str, keys_nil, keys_cons, slc_tup, slc_lst, slc_scr, end_t, end_f, ty_app, ty_pop, ty_ext, ty_getK, ty_getT, ok_int, ok_str, ok_non, isNop, and_assoc, at_0, at_1, at_2, at_3, dr, ex]
  exact wr_fin2 rfl (by rw [take_set]) (w d' (m'.mono (by omega)))
end
end Lw
set_option maxHeartbeats 800000
/-! k59: readers in turns. -/
namespace Lw
open Mi
def keysL : List L2.Key := [.inr "word", .inr "spot", .inr "here"]
def lineG (a b c : D) : D := .dK keysL [a, b, c]
theorem keysL_nd : keysL.Nodup := by decide +kernel
section
variable {a b c x : D} {h : MH}
theorem ix_word : ixD (lineG a b c) (.str "word") = some a := by
  show (getKD (.dK keysL [a, b, c]) (.str "word")).bind id = _
  rw [get_dKs, lk_at (j := 0) keysL_nd rfl rfl]; rfl
theorem ix_spot : ixD (lineG a b c) (.str "spot") = some b := by
  show (getKD (.dK keysL [a, b, c]) (.str "spot")).bind id = _
  rw [get_dKs, lk_at (j := 1) keysL_nd rfl rfl]; rfl
theorem ix_here : ixD (lineG a b c) (.str "here") = some c := by
  show (getKD (.dK keysL [a, b, c]) (.str "here")).bind id = _
  rw [get_dKs, lk_at (j := 2) keysL_nd rfl rfl]; rfl
theorem kl1 : (Sum.inr "word" : L2.Key) ≠ .inr "spot" := ne_key (by decide +kernel)
theorem kl2 : (Sum.inr "word" : L2.Key) ≠ .inr "here" := ne_key (by decide +kernel)
theorem kl3 : (Sum.inr "spot" : L2.Key) ≠ .inr "here" := ne_key (by decide +kernel)
theorem put_spot : putD (lineG a b c) (.str "spot") x = some (lineG a x c) := by
  show putD (.dK keysL [a, b, c]) (.str "spot") x = _
  have m : (Sum.inr "spot" : L2.Key) ∈ keysL := List.mem_of_getElem? (i := 1) rfl
  rw [put_dKs, if_pos (by decide)]
  unfold putKs putVs
  rw [if_pos m, if_pos m]
  unfold keysL
  rw [setD_no kl1, setD_yes rfl, setD_no kl3.symm, setD_nil]
  rfl
theorem put_here : putD (lineG a b c) (.str "here") x = some (lineG a b x) := by
  show putD (.dK keysL [a, b, c]) (.str "here") x = _
  have m : (Sum.inr "here" : L2.Key) ∈ keysL := List.mem_of_getElem? (i := 2) rfl
  rw [put_dKs, if_pos (by decide)]
  unfold putKs putVs
  rw [if_pos m, if_pos m]
  unfold keysL
  rw [setD_no kl2, setD_no kl3, setD_yes rfl, setD_nil]
  rfl
end
structure LineOk (sizes : List Nat) (levs : List (List Sta)) (u : List Nat) (t n : Nat) : Prop where
  len : levs.length ≤ u.length + 1
  rw : RW sizes 0 u
  small : u.length ≤ 100
  le : t ≤ u.length
  pos : Pos levs t n
  wk : walk levs 0 0 u = ((walk levs t n (u.drop t)).1, t + (walk levs t n (u.drop t)).2)
theorem LineOk.step {sizes : List Nat} {levs : List (List Sta)} {u : List Nat} {t n : Nat} (wf : WfM sizes levs) (o : LineOk sizes levs u t n) (m : Nat) :
    LineOk sizes levs u (t + (walk levs t n ((u.drop t).take m)).2) (walk levs t n ((u.drop t).take m)).1 := by
  have hr : RW sizes t ((u.drop t).take m) := by
    have := (o.rw.drop t).take m
    rwa [Nat.zero_add] at this
  obtain ⟨wp, wl⟩ := walk_pos wf _ t n o.pos hr
  have hsp : u.drop t = (u.drop t).take m ++ (u.drop t).drop m := (List.take_append_drop m _).symm
  have pl : ((u.drop t).take m).length = min m (u.length - t) := by rw [List.length_take, List.length_drop]
  refine ⟨o.len, o.rw, o.small, by have := o.le; omega, wp, ?_⟩
  rw [o.wk]
  have hwp := walk_part (levs := levs) ((u.drop t).take m) ((u.drop t).drop m) t n
  rw [← hsp] at hwp
  have hwe := walk_end (levs := levs) ((u.drop t).take m) t n
  generalize walk levs t n ((u.drop t).take m) = r at *
  rcases hwe with ⟨v, hv⟩ | hc
  · have e : walk levs t n (u.drop t) = r := by
      rcases hwp with q | ⟨_, _, q⟩
      · rw [q, walk_told hv]
        refine Prod.ext rfl ?_
        simp
      · exact q
    rw [e, walk_told hv]
    refine Prod.ext rfl ?_
    simp
  · have ed : (u.drop t).drop m = u.drop (t + r.2) := by
      rw [List.drop_drop]
      by_cases z : m ≤ u.length - t
      · congr 1; omega
      · rw [List.drop_of_length_le (by omega), List.drop_of_length_le (by omega)]
    rcases hwp with q | ⟨v, q1, q2⟩
    · rw [q, ed]
      refine Prod.ext rfl ?_
      show t + (r.2 + _) = t + r.2 + _
      omega
    · rw [q2, walk_told q1]
      refine Prod.ext rfl ?_
      simp
theorem cut_both (l : List D) (a b : Nat) (ha : a ≤ l.length) : cutD l (some (a : Int)) (some (b : Int)) = (l.drop a).take (b - a) := by
  unfold cutD
  rw [HT.sIx_nat, HT.sIx_nat, Nat.min_eq_left ha]
  by_cases z : b ≤ l.length
  · rw [Nat.min_eq_left z]
  · rw [Nat.min_eq_right (by omega), List.take_of_length_le (by rw [List.length_drop]; omega), List.take_of_length_le (by rw [List.length_drop]; omega)]
section
variable {h J : MH} {i j : Nat} {a x : D}
theorem get_J (e : J[j]? = some x) : (h.set i a ++ J)[h.length + j]? = some x := by
  rw [List.getElem?_append_right (by rw [List.length_set]; omega), List.length_set, Nat.add_sub_cancel_left]; exact e
theorem set_J : (h.set i a ++ J).set (h.length + j) x = h.set i a ++ J.set j x := by
  rw [List.set_append_right _ _ (by rw [List.length_set]; omega), List.length_set, Nat.add_sub_cancel_left]
end
abbrev Line := List Nat × Nat × Nat
def lineD (levs : List (List Sta)) (z : Line) : D := lineG (natsD z.1) (.int z.2.1) (resD levs z.2.1 z.2.2)
def LOk (sizes : List Nat) (levs : List (List Sta)) (z : Line) : Prop := LineOk sizes levs z.1 z.2.1 z.2.2
section
variable {k b i : Nat} {d : D} {h : MH} {Q : D → MH → Prop} {sizes : List Nat} {levs : List (List Sta)}
def refsD (n m : Nat) : List D := (List.range m).map fun (j : Nat) => D.ref (n + j)
/-- one turn -/
theorem s_turn {lines : List Line} {x2 e4 e5 e6 e7 e8 e9 : Option D} {Q : Fl → Env → MH → Prop} (hl : i < h.length) (m : Mach6 b d) (hb : b < 20000000) (wf : WfM sizes levs) (l0 : lines.length = 3) (lo : ∀ z ∈ lines, LOk sizes levs z)
    (w : ∀ (lines' : List Line) (d' : D) (e4 e5 e6 e7 e8 e9 : Option D), lines'.length = 3 → (∀ z ∈ lines', LOk sizes levs z) → Mach6 (b + 10) d' →
      Q .nx [some (.ref i), some (macD sizes levs), x2, some (.lst (refsD h.length 3)), e4, e5, e6, e7, e8, e9, none] (h.set i d' ++ lines'.map (lineD levs))) :
    Ws (callF prg (k + 4)) (match f_law_turns_right.body with
      | .cons _ (.cons _ (.cons (.forr _ _ b) _)) => b
      | _ => .nil) [some (.ref i), some (macD sizes levs), x2, some (.lst (refsD h.length 3)), e4, e5, e6, e7, e8, e9, none] (h.set i d ++ lines.map (lineD levs)) Q := by
  show Ws _ (.cons _ (.cons _ _)) _ _ _
  have okr : D.okRs (h.set i d ++ lines.map (lineD levs)).length (refsD h.length 3) = true := by
    have e : (h.set i d ++ lines.map (lineD levs)).length = h.length + 3 := by simp [l0]
    rw [e]
    show (D.okR _ (.ref (h.length + 0)) && (D.okR _ (.ref (h.length + 1)) && (D.okR _ (.ref (h.length + 2)) && true))) = true
    simp [D.okR]
  rw [ws_cons, ws_asg, we_call, wl_cons, we_var]
  refine ⟨_, rfl, ?_⟩
  rw [wl_cons, we_var]
  refine ⟨_, rfl, ?_⟩
  refine wl_nil.mpr ?_
  refine m_of (jd := 15) (mv := true) (l := refsD h.length 3) p15 p16 (get_app hl) m (by omega) (by simp [refsD]) (by simp [refsD]) okr fun j x d2 hx m2 => ?_
  have hj : j < 3 := by
    have := lt_of_get' hx
    simpa [refsD] using this
  have ex : x = .ref (h.length + j) := by
    unfold refsD at hx
    rw [List.getElem?_map, List.getElem?_range hj] at hx
    exact (Option.some.inj hx).symm
  subst ex
  rw [set_app hl]
  obtain ⟨z, hz⟩ : ∃ z, lines[j]? = some z := ⟨_, List.getElem?_eq_getElem (by omega)⟩
  obtain ⟨u, t, n⟩ := z
  have lz : LineOk sizes levs u t n := lo _ (List.mem_of_getElem? hz)
  have hJ : (lines.map (lineD levs))[j]? = some (lineG (natsD u) (.int t) (resD levs t n)) := by rw [List.getElem?_map, hz]; rfl
  have dr : ∀ d : D, deref (h.set i d ++ lines.map (lineD levs)) (.ref (h.length + j)) = lineG (natsD u) (.int t) (resD levs t n) := fun d => deref_ref (get_J hJ) rfl
  refine ⟨_, rfl, ?_⟩
  rw [nxt_nx, ws_cons]
  have cb : ∀ r : Nat, cutD (u.map fun (n : Nat) => D.int n) (some (t : Int)) (some ((t : Int) + 1 + (r : Int))) = ((u.drop t).take (r + 1)).map fun (n : Nat) => D.int n := fun r => by
    have e := cut_both (u.map fun (n : Nat) => D.int n) t (t + 1 + r) (by rw [List.length_map]; exact lz.le)
    have e2 : ((t + 1 + r : Nat) : Int) = (t : Int) + 1 + (r : Int) := by omega
    rw [e2] at e
    rw [e, ← List.map_drop, ← List.map_take]
    congr 2
    omega
  have sl : ∀ r : Nat, slcD (natsD u) (some (t : Int)) (some ((t : Int) + 1 + (r : Int))) = some (natsD ((u.drop t).take (r + 1))) := fun r => by
    unfold natsD
    rw [slc_tup, cb]
  try simp [ws_nil, ws_pass, ws_brk, ws_cnt, ws_ret0, ws_cons, nxt_rt, nxt_bk, nxt_ct, ws_asg, ws_put, ws_expr, ws_ret, ws_ite, we_var, we_int, we_str, we_bl, we_non, we_nopart, we_gint, we_gfn, we_bin, we_neg, we_cmp, we_chain, we_andd, we_orr, we_one, we_nott, we_ite, wl_nil, wl_cons, we_tup, we_lst, we_dct, we_dsp, we_call, we_callv, we_bi, we_isi, isi_non, isi_bl, isi_int, isi_str, isi_tup, isi_lst, isi_dK, isi_dT, we_ix, we_slc, we_rev, we_me, we_frz, we_rng, wf_rt, wf_nx, wr_ok, wr_opt, wr_grd, wr_err, asgD, deref_int, deref_tup, deref_lst, deref_str, deref_bl, deref_non, deref_dK, deref_dT, deref_scr, deref_fn, isObj, bin_add, bin_addS, bin_addT, bin_addL, bin_sub, bin_mul, bin_mulL, bin_mulT, bin_fdiv, bin_mod, bin_pow, cmp_eq, cmp_ne, cmp_lt, cmp_le, cmp_gt, cmp_ge, cmp_isB, cmp_isnotB, cmp_is, cmp_isnot, cmp_inn, cmp_notin, eq_int, eq_str, eq_bl, tru_non, tru_bl, tru_int, tru_tup, tru_lst, tru_dK, ix_tup, ix_lst, ix_dK, ix_dT, bi_lenT, bi_lenL, bi_lenS, bi_int, bi_intB, bi_tupT, bi_tupL, bi_lisT, bi_lisL, bi_repr, bi_all, bi_any, bi_sum, bi_max, bi_min, bi_abs, bi_gcd, in_lst, in_tup, in_dK, in_dT, get_dKi, get_dKs, get_dTt, put_dKi, put_dKs, put_dTt, put_lst, key_int, key_str, keys_nil, keys_cons, slc_tup, slc_lst, slc_scr, end_t, end_f, ty_app, ty_pop, ty_ext, ty_getK, ty_getT, ok_int, ok_str, ok_non, isNop, and_assoc, at_0, at_1, at_2, at_3, dr, ix_word, ix_spot]
  refine m_drawN (j := 15) (below := 3) p15 (get_app hl) m2 (by omega) (by decide) (by decide) fun r d3 hr m3 => ?_
  rw [set_app hl]
  try simp [ws_nil, ws_pass, ws_brk, ws_cnt, ws_ret0, ws_cons, nxt_rt, nxt_bk, nxt_ct, ws_asg, ws_put, ws_expr, ws_ret, ws_ite, we_var, we_int, we_str, we_bl, we_non, we_nopart, we_gint, we_gfn, we_bin, we_neg, we_cmp, we_chain, we_andd, we_orr, we_one, we_nott, we_ite, wl_nil, wl_cons, we_tup, we_lst, we_dct, we_dsp, we_call, we_callv, we_bi, we_isi, isi_non, isi_bl, isi_int, isi_str, isi_tup, isi_lst, isi_dK, isi_dT, we_ix, we_slc, we_rev, we_me, we_frz, we_rng, wf_rt, wf_nx, wr_ok, wr_opt, wr_grd, wr_err, asgD, deref_int, deref_tup, deref_lst, deref_str, deref_bl, deref_non, deref_dK, deref_dT, deref_scr, deref_fn, isObj, bin_add, bin_addS, bin_addT, bin_addL, bin_sub, bin_mul, bin_mulL, bin_mulT, bin_fdiv, bin_mod, bin_pow, cmp_eq, cmp_ne, cmp_lt, cmp_le, cmp_gt, cmp_ge, cmp_isB, cmp_isnotB, cmp_is, cmp_isnot, cmp_inn, cmp_notin, eq_int, eq_str, eq_bl, tru_non, tru_bl, tru_int, tru_tup, tru_lst, tru_dK, ix_tup, ix_lst, ix_dK, ix_dT, bi_lenT, bi_lenL, bi_lenS, bi_int, bi_intB, bi_tupT, bi_tupL, bi_lisT, bi_lisL, bi_repr, bi_all, bi_any, bi_sum, bi_max, bi_min, bi_abs, bi_gcd, in_lst, in_tup, in_dK, in_dT, get_dKi, get_dKs, get_dTt, put_dKi, put_dKs, put_dTt, put_lst, key_int, key_str, keys_nil, keys_cons, slc_tup, slc_lst, slc_scr, end_t, end_f, ty_app, ty_pop, ty_ext, ty_getK, ty_getT, ok_int, ok_str, ok_non, isNop, and_assoc, at_0, at_1, at_2, at_3, dr, de_nats, sl]
  rw [nxt_nx]
  cases s : stAt levs t n with
  | told v =>
    have rs := res_told s
    try simp [ws_nil, ws_pass, ws_brk, ws_cnt, ws_ret0, ws_cons, nxt_rt, nxt_bk, nxt_ct, ws_asg, ws_put, ws_expr, ws_ret, ws_ite, we_var, we_int, we_str, we_bl, we_non, we_nopart, we_gint, we_gfn, we_bin, we_neg, we_cmp, we_chain, we_andd, we_orr, we_one, we_nott, we_ite, wl_nil, wl_cons, we_tup, we_lst, we_dct, we_dsp, we_call, we_callv, we_bi, we_isi, isi_non, isi_bl, isi_int, isi_str, isi_tup, isi_lst, isi_dK, isi_dT, we_ix, we_slc, we_rev, we_me, we_frz, we_rng, wf_rt, wf_nx, wr_ok, wr_opt, wr_grd, wr_err, asgD, deref_int, deref_tup, deref_lst, deref_str, deref_bl, deref_non, deref_dK, deref_dT, deref_scr, deref_fn, isObj, bin_add, bin_addS, bin_addT, bin_addL, bin_sub, bin_mul, bin_mulL, bin_mulT, bin_fdiv, bin_mod, bin_pow, cmp_eq, cmp_ne, cmp_lt, cmp_le, cmp_gt, cmp_ge, cmp_isB, cmp_isnotB, cmp_is, cmp_isnot, cmp_inn, cmp_notin, eq_int, eq_str, eq_bl, tru_non, tru_bl, tru_int, tru_tup, tru_lst, tru_dK, ix_tup, ix_lst, ix_dK, ix_dT, bi_lenT, bi_lenL, bi_lenS, bi_int, bi_intB, bi_tupT, bi_tupL, bi_lisT, bi_lisL, bi_repr, bi_all, bi_any, bi_sum, bi_max, bi_min, bi_abs, bi_gcd, in_lst, in_tup, in_dK, in_dT, get_dKi, get_dKs, get_dTt, put_dKi, put_dKs, put_dTt, put_lst, key_int, key_str, keys_nil, keys_cons, slc_tup, slc_lst, slc_scr, end_t, end_f, ty_app, ty_pop, ty_ext, ty_getK, ty_getT, ok_int, ok_str, ok_non, isNop, and_assoc, at_0, at_1, at_2, at_3, dr, ix_here, de_res, rs, told_on]
    rw [nxt_nx, ws_nil]
    exact w lines d3 e4 e5 _ _ e8 e9 l0 lo (m3.mono (by omega))
  | go l =>
    have rs := res_go s
    have lz2 := lz.step wf (r + 1)
    have hr2 : RW sizes t ((u.drop t).take (r + 1)) := by
      have := (lz.rw.drop t).take (r + 1)
      rwa [Nat.zero_add] at this
    try simp [ws_nil, ws_pass, ws_brk, ws_cnt, ws_ret0, ws_cons, nxt_rt, nxt_bk, nxt_ct, ws_asg, ws_put, ws_expr, ws_ret, ws_ite, we_var, we_int, we_str, we_bl, we_non, we_nopart, we_gint, we_gfn, we_bin, we_neg, we_cmp, we_chain, we_andd, we_orr, we_one, we_nott, we_ite, wl_nil, wl_cons, we_tup, we_lst, we_dct, we_dsp, we_call, we_callv, we_bi, we_isi, isi_non, isi_bl, isi_int, isi_str, isi_tup, isi_lst, isi_dK, isi_dT, we_ix, we_slc, we_rev, we_me, we_frz, we_rng, wf_rt, wf_nx, wr_ok, wr_opt, wr_grd, wr_err, asgD, deref_int, deref_tup, deref_lst, deref_str, deref_bl, deref_non, deref_dK, deref_dT, deref_scr, deref_fn, isObj, bin_add, bin_addS, bin_addT, bin_addL, bin_sub, bin_mul, bin_mulL, bin_mulT, bin_fdiv, bin_mod, bin_pow, cmp_eq, cmp_ne, cmp_lt, cmp_le, cmp_gt, cmp_ge, cmp_isB, cmp_isnotB, cmp_is, cmp_isnot, cmp_inn, cmp_notin, eq_int, eq_str, eq_bl, tru_non, tru_bl, tru_int, tru_tup, tru_lst, tru_dK, ix_tup, ix_lst, ix_dK, ix_dT, bi_lenT, bi_lenL, bi_lenS, bi_int, bi_intB, bi_tupT, bi_tupL, bi_lisT, bi_lisL, bi_repr, bi_all, bi_any, bi_sum, bi_max, bi_min, bi_abs, bi_gcd, in_lst, in_tup, in_dK, in_dT, get_dKi, get_dKs, get_dTt, put_dKi, put_dKs, put_dTt, put_lst, key_int, key_str, keys_nil, keys_cons, slc_tup, slc_lst, slc_scr, end_t, end_f, ty_app, ty_pop, ty_ext, ty_getK, ty_getT, ok_int, ok_str, ok_non, isNop, and_assoc, at_0, at_1, at_2, at_3, dr, ix_here, de_res, rs]
    refine c_read_all wf lz.pos s hr2 (by rw [List.length_take, List.length_drop]; have := lz.small; omega) ?_
    have okx := resD_ok wf lz2.pos (h.length + j)
    generalize walk levs t n ((u.drop t).take (r + 1)) = rr at *
    try simp [ws_nil, ws_pass, ws_brk, ws_cnt, ws_ret0, ws_cons, nxt_rt, nxt_bk, nxt_ct, ws_asg, ws_put, ws_expr, ws_ret, ws_ite, we_var, we_int, we_str, we_bl, we_non, we_nopart, we_gint, we_gfn, we_bin, we_neg, we_cmp, we_chain, we_andd, we_orr, we_one, we_nott, we_ite, wl_nil, wl_cons, we_tup, we_lst, we_dct, we_dsp, we_call, we_callv, we_bi, we_isi, isi_non, isi_bl, isi_int, isi_str, isi_tup, isi_lst, isi_dK, isi_dT, we_ix, we_slc, we_rev, we_me, we_frz, we_rng, wf_rt, wf_nx, wr_ok, wr_opt, wr_grd, wr_err, asgD, deref_int, deref_tup, deref_lst, deref_str, deref_bl, deref_non, deref_dK, deref_dT, deref_scr, deref_fn, isObj, bin_add, bin_addS, bin_addT, bin_addL, bin_sub, bin_mul, bin_mulL, bin_mulT, bin_fdiv, bin_mod, bin_pow, cmp_eq, cmp_ne, cmp_lt, cmp_le, cmp_gt, cmp_ge, cmp_isB, cmp_isnotB, cmp_is, cmp_isnot, cmp_inn, cmp_notin, eq_int, eq_str, eq_bl, tru_non, tru_bl, tru_int, tru_tup, tru_lst, tru_dK, ix_tup, ix_lst, ix_dK, ix_dT, bi_lenT, bi_lenL, bi_lenS, bi_int, bi_intB, bi_tupT, bi_tupL, bi_lisT, bi_lisL, bi_repr, bi_all, bi_any, bi_sum, bi_max, bi_min, bi_abs, bi_gcd, in_lst, in_tup, in_dK, in_dT, get_dKi, get_dKs, get_dTt, put_dKi, put_dKs, put_dTt, put_lst, key_int, key_str, keys_nil, keys_cons, slc_tup, slc_lst, slc_scr, end_t, end_f, ty_app, ty_pop, ty_ext, ty_getK, ty_getT, ok_int, ok_str, ok_non, isNop, and_assoc, at_0, at_1, at_2, at_3]
    rw [nxt_nx, ws_cons]
    refine ws_put2 ?_
    try simp [ws_nil, ws_pass, ws_brk, ws_cnt, ws_ret0, ws_cons, nxt_rt, nxt_bk, nxt_ct, ws_asg, ws_put, ws_expr, ws_ret, ws_ite, we_var, we_int, we_str, we_bl, we_non, we_nopart, we_gint, we_gfn, we_bin, we_neg, we_cmp, we_chain, we_andd, we_orr, we_one, we_nott, we_ite, wl_nil, wl_cons, we_tup, we_lst, we_dct, we_dsp, we_call, we_callv, we_bi, we_isi, isi_non, isi_bl, isi_int, isi_str, isi_tup, isi_lst, isi_dK, isi_dT, we_ix, we_slc, we_rev, we_me, we_frz, we_rng, wf_rt, wf_nx, wr_ok, wr_opt, wr_grd, wr_err, asgD, deref_int, deref_tup, deref_lst, deref_str, deref_bl, deref_non, deref_dK, deref_dT, deref_scr, deref_fn, isObj, bin_add, bin_addS, bin_addT, bin_addL, bin_sub, bin_mul, bin_mulL, bin_mulT, bin_fdiv, bin_mod, bin_pow, cmp_eq, cmp_ne, cmp_lt, cmp_le, cmp_gt, cmp_ge, cmp_isB, cmp_isnotB, cmp_is, cmp_isnot, cmp_inn, cmp_notin, eq_int, eq_str, eq_bl, tru_non, tru_bl, tru_int, tru_tup, tru_lst, tru_dK, ix_tup, ix_lst, ix_dK, ix_dT, bi_lenT, bi_lenL, bi_lenS, bi_int, bi_intB, bi_tupT, bi_tupL, bi_lisT, bi_lisL, bi_repr, bi_all, bi_any, bi_sum, bi_max, bi_min, bi_abs, bi_gcd, in_lst, in_tup, in_dK, in_dT, get_dKi, get_dKs, get_dTt, put_dKi, put_dKs, put_dTt, put_lst, key_int, key_str, keys_nil, keys_cons, slc_tup, slc_lst, slc_scr, end_t, end_f, ty_app, ty_pop, ty_ext, ty_getK, ty_getT, ok_int, ok_str, ok_non, isNop, and_assoc, at_0, at_1, at_2, at_3, dr, ix_spot, szL]
    refine ⟨h.length + j, rfl, _, get_J hJ, _, put_here, okx, ?_⟩
    rw [set_J]
    have hJ2 : ((lines.map (lineD levs)).set j (lineG (natsD u) (.int t) (resD levs (t + rr.2) rr.1)))[j]? = some (lineG (natsD u) (.int t) (resD levs (t + rr.2) rr.1)) := List.getElem?_set_self (by rw [List.length_map]; omega)
    refine ⟨h.length + j, rfl, _, get_J hJ2, _, put_spot, rfl, ?_⟩
    rw [set_J, List.set_set]
    show nxt (callF prg (k + 4)) .nil (nxt (callF prg (k + 4)) .nil Q) .nx _ _
    rw [nxt_nx, ws_nil, nxt_nx, ws_nil]
    have e1 : (lines.map (lineD levs)).set j (lineG (natsD u) (.int ((t : Int) + (rr.2 : Int))) (resD levs (t + rr.2) rr.1)) = (lines.set j (u, t + rr.2, rr.1)).map (lineD levs) := by
      rw [List.map_set]; rfl
    rw [e1]
    refine w _ d3 e4 e5 _ _ _ _ (by rw [List.length_set]; exact l0) (fun q hq => ?_) (m3.mono (by omega))
    rcases List.mem_or_eq_of_mem_set hq with z | z
    · exact lo q z
    · rw [z]; exact lz2
end
end Lw
set_option maxHeartbeats 800000
/-! k59: readers in turns; the law. -/
namespace Lw
open Mi
section
variable {k b i : Nat} {d : D} {h : MH} {Q : D → MH → Prop} {sizes : List Nat} {levs : List (List Sta)}
theorem nd3 : ([.inr "word", .inr "spot", .inr "here"] : List L2.Key).Nodup := keysL_nd
theorem c_turns {words : List (List Nat)} (hi : h[i]? = some d) (m : Mach6 b d) (hb : b < 10000000) (wf : WfM sizes levs) (wl : levs.length ≤ 6) (ww : WsOk sizes (levs.length - 1) words) (w : ∀ d', Mach6 (b + 200) d' → Q (.bl true) (h.set i d')) :
    Wc (callF prg (k + 5)) 24 [.ref i, macD sizes levs, wordsD words] h Q := by
  have hl := lt_of_get hi
  have L1 := wf.l1
  obtain ⟨w1, w2, w3⟩ := ww
  have w4 : words.length ≤ 243 := by
    refine Nat.le_trans w2 ?_
    calc 3 ^ (levs.length - 1) ≤ 3 ^ 5 := Nat.pow_le_pow_right (by decide) (by omega)
      _ = 243 := by decide
  obtain ⟨lv0, e1, e2⟩ := (Pos.first wf).st
  have i0 : ixD (levsD levs) (.int 0) = some (levD lv0) := ix_levs (t := 0) e1
  have i1 : ixD (levD lv0) (.int 0) = some (stAt levs 0 0).d := ix_lev (n := 0) e2
  refine wc_at (fn := f_law_turns_right) rfl rfl ?_
  show Ws _ (.cons _ (.cons _ (.cons _ (.cons _ _)))) [some (.ref i), some (macD sizes levs), some (wordsD words), none, none, none, none, none, none, none, none] _ _
  rw [ws_cons]
  cases s0 : stAt levs 0 0 with
  | told v =>
    rw [s0] at i1
    try simp [ws_nil, ws_pass, ws_brk, ws_cnt, ws_ret0, ws_cons, nxt_rt, nxt_bk, nxt_ct, ws_asg, ws_put, ws_expr, ws_ret, ws_ite, we_var, we_int, we_str, we_bl, we_non, we_nopart, we_gint, we_gfn, we_bin, we_neg, we_cmp, we_chain, we_andd, we_orr, we_one, we_nott, we_ite, wl_nil, wl_cons, we_tup, we_lst, we_dct, we_dsp, we_call, we_callv, we_bi, we_isi, isi_non, isi_bl, isi_int, isi_str, isi_tup, isi_lst, isi_dK, isi_dT, we_ix, we_slc, we_rev, we_me, we_frz, we_rng, wf_rt, wf_nx, wr_ok, wr_opt, wr_grd, wr_err, asgD, deref_int, deref_tup, deref_lst, deref_str, deref_bl, deref_non, deref_dK, deref_dT, deref_scr, deref_fn, isObj, bin_add, bin_addS, bin_addT, bin_addL, bin_sub, bin_mul, bin_mulL, bin_mulT, bin_fdiv, bin_mod, bin_pow, cmp_eq, cmp_ne, cmp_lt, cmp_le, cmp_gt, cmp_ge, cmp_isB, cmp_isnotB, cmp_is, cmp_isnot, cmp_inn, cmp_notin, eq_int, eq_str, eq_bl, tru_non, tru_bl, tru_int, tru_tup, tru_lst, tru_dK, ix_tup, ix_lst, ix_dK, ix_dT, bi_lenT, bi_lenL, bi_lenS, bi_int, bi_intB, bi_tupT, bi_tupL, bi_lisT, bi_lisL, bi_repr, bi_all, bi_any, bi_sum, bi_max, bi_min, bi_abs, bi_gcd, in_lst, in_tup, in_dK, in_dT, get_dKi, get_dKs, get_dTt, put_dKi, put_dKs, put_dTt, put_lst, key_int, key_str, keys_nil, keys_cons, slc_tup, slc_lst, slc_scr, end_t, end_f, ty_app, ty_pop, ty_ext, ty_getK, ty_getT, ok_int, ok_str, ok_non, isNop, and_assoc, at_0, at_1, at_2, at_3, de_mac, ix_mac1, de_levs, i0, de_lev, i1, de_sta, ix_told0]
    exact wr_fin2 rfl (by rw [set_same hi, List.take_length]) (w d (m.mono (by omega)))
  | go lg =>
    rw [s0] at i1
    have r0 := res_go s0
    try simp [ws_nil, ws_pass, ws_brk, ws_cnt, ws_ret0, ws_cons, nxt_rt, nxt_bk, nxt_ct, ws_asg, ws_put, ws_expr, ws_ret, ws_ite, we_var, we_int, we_str, we_bl, we_non, we_nopart, we_gint, we_gfn, we_bin, we_neg, we_cmp, we_chain, we_andd, we_orr, we_one, we_nott, we_ite, wl_nil, wl_cons, we_tup, we_lst, we_dct, we_dsp, we_call, we_callv, we_bi, we_isi, isi_non, isi_bl, isi_int, isi_str, isi_tup, isi_lst, isi_dK, isi_dT, we_ix, we_slc, we_rev, we_me, we_frz, we_rng, wf_rt, wf_nx, wr_ok, wr_opt, wr_grd, wr_err, asgD, deref_int, deref_tup, deref_lst, deref_str, deref_bl, deref_non, deref_dK, deref_dT, deref_scr, deref_fn, isObj, bin_add, bin_addS, bin_addT, bin_addL, bin_sub, bin_mul, bin_mulL, bin_mulT, bin_fdiv, bin_mod, bin_pow, cmp_eq, cmp_ne, cmp_lt, cmp_le, cmp_gt, cmp_ge, cmp_isB, cmp_isnotB, cmp_is, cmp_isnot, cmp_inn, cmp_notin, eq_int, eq_str, eq_bl, tru_non, tru_bl, tru_int, tru_tup, tru_lst, tru_dK, ix_tup, ix_lst, ix_dK, ix_dT, bi_lenT, bi_lenL, bi_lenS, bi_int, bi_intB, bi_tupT, bi_tupL, bi_lisT, bi_lisL, bi_repr, bi_all, bi_any, bi_sum, bi_max, bi_min, bi_abs, bi_gcd, in_lst, in_tup, in_dK, in_dT, get_dKi, get_dKs, get_dTt, put_dKi, put_dKs, put_dTt, put_lst, key_int, key_str, keys_nil, keys_cons, slc_tup, slc_lst, slc_scr, end_t, end_f, ty_app, ty_pop, ty_ext, ty_getK, ty_getT, ok_int, ok_str, ok_non, isNop, and_assoc, at_0, at_1, at_2, at_3, de_mac, ix_mac1, de_levs, i0, de_lev, i1, de_sta, ix_go0, go_told]
    rw [nxt_nx, ws_cons, ws_asg]
    refine we_lcI (I := fun t acc h2 => ∃ (lines : List Line) (d' : D), acc = refsD h.length t ∧ lines.length = t ∧ (∀ z ∈ lines, LOk sizes levs z) ∧ h2 = h.set i d' ++ lines.map (lineD levs) ∧ Mach6 (b + t) d') ?_
    rw [we_rng, wl_cons, we_int]
    refine wl_nil.mpr ?_
    refine ⟨_, rng_nat (n := 3) (by decide), _, rfl, by unfold szL; simp, ⟨[], d, rfl, rfl, by simp, by simp [set_same hi], m⟩, ?_, ?_⟩
    · rintro t x acc h2 hx ⟨lines, d', rfl, rfl, lo, rfl, m'⟩
      have ht : lines.length < 3 := by
        have := lt_of_get' hx
        simpa using this
      refine ⟨_, rfl, ?_⟩
      rw [we_bl]
      refine ⟨true, rfl, ?_⟩
      rw [if_pos rfl, we_dsp, wl_cons, we_call, wl_cons, we_var]
      refine ⟨_, rfl, ?_⟩
      rw [wl_cons, we_var]
      refine ⟨_, rfl, ?_⟩
      refine wl_nil.mpr ?_
      refine m_of (jd := 15) (mv := true) (l := words.map natsD) p15 p16 (get_app hl) m' (by omega) (by rw [List.length_map]; exact w1) (by rw [List.length_map]; omega) (okRs_words _ _) fun n y d2 hy m2 => ?_
      rw [set_app hl]
      rw [List.getElem?_map] at hy
      cases hu : words[n]? with
      | none => rw [hu] at hy; cases hy
      | some u =>
        rw [hu] at hy
        cases hy
        obtain ⟨ul, ur⟩ := w3 u (List.mem_of_getElem? hu)
        rw [wl_cons, we_int, wl_cons, we_tup, wl_cons, we_str, wl_cons, we_tup, wl_cons, we_int, wl_cons, we_int]
        refine wl_nil.mpr ⟨by unfold szL; decide, wl_nil.mpr ⟨by unfold szL; decide, wl_nil.mpr ⟨⟨rfl, by decide, nd3⟩, ?_⟩⟩⟩
        rw [if_pos rfl]
        have el : (.dK [.inr "word", .inr "spot", .inr "here"] [natsD u, .int 0, .tup [.str "on", .tup [.int 0, .int 0]]] : D) = lineD levs (u, 0, 0) := by
          show _ = lineG _ _ (resD levs 0 0)
          rw [r0]; rfl
        rw [el]
        refine ⟨lines ++ [(u, 0, 0)], d2, ?_, by simp, fun z hz => ?_, by simp, m2⟩
        · unfold refsD
          rw [List.range_succ, List.map_append]
          simp
        · rcases List.mem_append.mp hz with q | q
          · exact lo z q
          · have : z = (u, 0, 0) := by simpa using q
            rw [this]
            have a1 : levs.length ≤ u.length + 1 := by omega
            have a2 : u.length ≤ 100 := by omega
            exact ⟨a1, ur, a2, Nat.zero_le _, Pos.first wf, by simp⟩
    rintro L h2 ⟨lines, d', rfl, l0, lo, rfl, m'⟩
    have l0 : lines.length = 3 := by simpa using l0
    rw [if_neg (by decide)]
    have eL : refsD h.length (List.map (fun n => D.int (n : Nat)) (List.range 3)).length = refsD h.length 3 := by simp
    rw [eL]
    refine ⟨_, rfl, ?_⟩
    rw [nxt_nx, ws_cons]
    refine ws_forW (I := fun n σ h' => ∃ (lines : List Line) (d' : D) (e4 e5 e6 e7 e8 e9 : Option D), σ = [some (.ref i), some (macD sizes levs), some (wordsD words), some (.lst (refsD h.length 3)), e4, e5, e6, e7, e8, e9, none] ∧
      h' = h.set i d' ++ lines.map (lineD levs) ∧ lines.length = 3 ∧ (∀ z ∈ lines, LOk sizes levs z) ∧ Mach6 (b + 3 + 10 * n) d') ((List.range 12).map fun (n : Nat) => D.int n) ?_ ?_ ?_
    · rw [we_rng, wl_cons, we_int]
      refine wl_nil.mpr ?_
      exact ⟨_, rng_nat (n := 12) (by decide), rfl, lines, d', _, _, _, _, _, _, rfl, rfl, l0, lo, m'.mono (by simp)⟩
    · rintro n x σ h' hx ⟨lines, d', e4, e5, e6, e7, e8, e9, rfl, rfl, l0, lo, m'⟩
      have ht : n < 12 := by
        have := lt_of_get' hx
        simpa using this
      refine ⟨_, rfl, ?_⟩
      refine s_turn (b := b + 3 + 10 * n) hl m' (by omega) wf l0 lo fun lines' d2 y4 y5 y6 y7 y8 y9 l1 lo1 m2 => ?_
      exact ⟨lines', d2, _, _, _, _, _, _, rfl, rfl, l1, lo1, m2.mono (by omega)⟩
    · rintro σ h' ⟨lines, d', e4, e5, e6, e7, e8, e9, rfl, rfl, l0, lo, m'⟩
      rw [nxt_nx, ws_cons]
      refine ws_forW (I := fun n σ h' => ∃ (e4 e5 e6 e7 e8 e9 e10 : Option D), σ = [some (.ref i), some (macD sizes levs), some (wordsD words), some (.lst (refsD h.length 3)), e4, e5, e6, e7, e8, e9, e10] ∧
        h' = h.set i d' ++ lines.map (lineD levs)) (refsD h.length 3) ?_ ?_ ?_
      · rw [we_var]
        exact ⟨_, rfl, rfl, _, _, _, _, _, _, _, rfl, rfl⟩
      · rintro j x σ h' hx ⟨e4, e5, e6, e7, e8, e9, e10, rfl, rfl⟩
        have hj : j < 3 := by
          have := lt_of_get' hx
          simpa [refsD] using this
        have ex : x = .ref (h.length + j) := by
          unfold refsD at hx
          rw [List.getElem?_map, List.getElem?_range hj] at hx
          exact (Option.some.inj hx).symm
        subst ex
        obtain ⟨z, hz⟩ : ∃ z, lines[j]? = some z := ⟨_, List.getElem?_eq_getElem (by omega)⟩
        obtain ⟨u, t, n⟩ := z
        have lz : LineOk sizes levs u t n := lo _ (List.mem_of_getElem? hz)
        have hJ : (lines.map (lineD levs))[j]? = some (lineG (natsD u) (.int t) (resD levs t n)) := by rw [List.getElem?_map, hz]; rfl
        have dr : deref (h.set i d' ++ lines.map (lineD levs)) (.ref (h.length + j)) = lineG (natsD u) (.int t) (resD levs t n) := deref_ref (get_J hJ) rfl
        obtain ⟨v, ht⟩ := walk_full wf (Pos.first wf) lz.rw (by have := lz.len; omega)
        rw [Nat.zero_add] at ht
        refine ⟨_, rfl, ?_⟩
        show Ws _ (.cons _ (.cons _ _)) _ _ _
        rw [ws_cons]
        try simp [ws_nil, ws_pass, ws_brk, ws_cnt, ws_ret0, ws_cons, nxt_rt, nxt_bk, nxt_ct, ws_asg, ws_put, ws_expr, ws_ret, ws_ite, we_var, we_int, we_str, we_bl, we_non, we_nopart, we_gint, we_gfn, we_bin, we_neg, we_cmp, we_chain, we_andd, we_orr, we_one, we_nott, we_ite, wl_nil, wl_cons, we_tup, we_lst, we_dct, we_dsp, we_call, we_callv, we_bi, we_isi, isi_non, isi_bl, isi_int, isi_str, isi_tup, isi_lst, isi_dK, isi_dT, we_ix, we_slc, we_rev, we_me, we_frz, we_rng, wf_rt, wf_nx, wr_ok, wr_opt, wr_grd, wr_err, asgD, deref_int, deref_tup, deref_lst, deref_str, deref_bl, deref_non, deref_dK, deref_dT, deref_scr, deref_fn, isObj, bin_add, bin_addS, bin_addT, bin_addL, bin_sub, bin_mul, bin_mulL, bin_mulT, bin_fdiv, bin_mod, bin_pow, cmp_eq, cmp_ne, cmp_lt, cmp_le, cmp_gt, cmp_ge, cmp_isB, cmp_isnotB, cmp_is, cmp_isnot, cmp_inn, cmp_notin, eq_int, eq_str, eq_bl, tru_non, tru_bl, tru_int, tru_tup, tru_lst, tru_dK, ix_tup, ix_lst, ix_dK, ix_dT, bi_lenT, bi_lenL, bi_lenS, bi_int, bi_intB, bi_tupT, bi_tupL, bi_lisT, bi_lisL, bi_repr, bi_all, bi_any, bi_sum, bi_max, bi_min, bi_abs, bi_gcd, in_lst, in_tup, in_dK, in_dT, get_dKi, get_dKs, get_dTt, put_dKi, put_dKs, put_dTt, put_lst, key_int, key_str, keys_nil, keys_cons, slc_tup, slc_lst, slc_scr, end_t, end_f, ty_app, ty_pop, ty_ext, ty_getK, ty_getT, ok_int, ok_str, ok_non, isNop, and_assoc, at_0, at_1, at_2, at_3, dr, ix_word]
        refine c_told_by wf lz.rw (by have := lz.len; omega) ht ?_
        rw [nxt_nx, ws_cons]
        have wk := lz.wk
        cases s : stAt levs t n with
        | told v' =>
          have rs := res_told s
          have e : walk levs 0 0 u = (n, t) := by rw [wk, walk_told s]; rfl
          rw [e] at ht
          have hv : v = v' := by
            rw [s] at ht; cases ht; rfl
          subst hv
          have et : toldR levs u v = .tup [v, .int t] := by unfold toldR; rw [e]
          have okt := (resD_text wf lz.pos).text (by decide) (by decide)
          rw [rs] at okt
          obtain ⟨q, hq⟩ := okt
          rw [et]
          try simp [ws_nil, ws_pass, ws_brk, ws_cnt, ws_ret0, ws_cons, nxt_rt, nxt_bk, nxt_ct, ws_asg, ws_put, ws_expr, ws_ret, ws_ite, we_var, we_int, we_str, we_bl, we_non, we_nopart, we_gint, we_gfn, we_bin, we_neg, we_cmp, we_chain, we_andd, we_orr, we_one, we_nott, we_ite, wl_nil, wl_cons, we_tup, we_lst, we_dct, we_dsp, we_call, we_callv, we_bi, we_isi, isi_non, isi_bl, isi_int, isi_str, isi_tup, isi_lst, isi_dK, isi_dT, we_ix, we_slc, we_rev, we_me, we_frz, we_rng, wf_rt, wf_nx, wr_ok, wr_opt, wr_grd, wr_err, asgD, deref_int, deref_tup, deref_lst, deref_str, deref_bl, deref_non, deref_dK, deref_dT, deref_scr, deref_fn, isObj, bin_add, bin_addS, bin_addT, bin_addL, bin_sub, bin_mul, bin_mulL, bin_mulT, bin_fdiv, bin_mod, bin_pow, cmp_eq, cmp_ne, cmp_lt, cmp_le, cmp_gt, cmp_ge, cmp_isB, cmp_isnotB, cmp_is, cmp_isnot, cmp_inn, cmp_notin, eq_int, eq_str, eq_bl, tru_non, tru_bl, tru_int, tru_tup, tru_lst, tru_dK, ix_tup, ix_lst, ix_dK, ix_dT, bi_lenT, bi_lenL, bi_lenS, bi_int, bi_intB, bi_tupT, bi_tupL, bi_lisT, bi_lisL, bi_repr, bi_all, bi_any, bi_sum, bi_max, bi_min, bi_abs, bi_gcd, in_lst, in_tup, in_dK, in_dT, get_dKi, get_dKs, get_dTt, put_dKi, put_dKs, put_dTt, put_lst, key_int, key_str, keys_nil, keys_cons, slc_tup, slc_lst, slc_scr, end_t, end_f, ty_app, ty_pop, ty_ext, ty_getK, ty_getT, ok_int, ok_str, ok_non, isNop, and_assoc, at_0, at_1, at_2, at_3, dr, ix_here, de_res, rs, hq, szL]
          rw [nxt_nx]
          try simp [ws_nil, ws_pass, ws_brk, ws_cnt, ws_ret0, ws_cons, nxt_rt, nxt_bk, nxt_ct, ws_asg, ws_put, ws_expr, ws_ret, ws_ite, we_var, we_int, we_str, we_bl, we_non, we_nopart, we_gint, we_gfn, we_bin, we_neg, we_cmp, we_chain, we_andd, we_orr, we_one, we_nott, we_ite, wl_nil, wl_cons, we_tup, we_lst, we_dct, we_dsp, we_call, we_callv, we_bi, we_isi, isi_non, isi_bl, isi_int, isi_str, isi_tup, isi_lst, isi_dK, isi_dT, we_ix, we_slc, we_rev, we_me, we_frz, we_rng, wf_rt, wf_nx, wr_ok, wr_opt, wr_grd, wr_err, asgD, deref_int, deref_tup, deref_lst, deref_str, deref_bl, deref_non, deref_dK, deref_dT, deref_scr, deref_fn, isObj, bin_add, bin_addS, bin_addT, bin_addL, bin_sub, bin_mul, bin_mulL, bin_mulT, bin_fdiv, bin_mod, bin_pow, cmp_eq, cmp_ne, cmp_lt, cmp_le, cmp_gt, cmp_ge, cmp_isB, cmp_isnotB, cmp_is, cmp_isnot, cmp_inn, cmp_notin, eq_int, eq_str, eq_bl, tru_non, tru_bl, tru_int, tru_tup, tru_lst, tru_dK, ix_tup, ix_lst, ix_dK, ix_dT, bi_lenT, bi_lenL, bi_lenS, bi_int, bi_intB, bi_tupT, bi_tupL, bi_lisT, bi_lisL, bi_repr, bi_all, bi_any, bi_sum, bi_max, bi_min, bi_abs, bi_gcd, in_lst, in_tup, in_dK, in_dT, get_dKi, get_dKs, get_dTt, put_dKi, put_dKs, put_dTt, put_lst, key_int, key_str, keys_nil, keys_cons, slc_tup, slc_lst, slc_scr, end_t, end_f, ty_app, ty_pop, ty_ext, ty_getK, ty_getT, ok_int, ok_str, ok_non, isNop, and_assoc, at_0, at_1, at_2, at_3, dr, ix_here, de_res, rs, told_on]
          rw [nxt_nx, ws_nil]
          exact ⟨⟨_, _, _, _, _, _, _, rfl⟩, rfl⟩
        | go l' =>
          have rs := res_go s
          have g := lz.pos.goes wf s
          have tl : t < u.length := by have := lz.len; omega
          have lt : t < (walk levs 0 0 u).2 := by
            rw [wk, List.drop_eq_getElem_cons tl, walk_go s]
            show t < t + (_ + 1)
            omega
          have lt2 : ¬ (walk levs 0 0 u).2 ≤ t := by omega
          unfold toldR
          try simp [ws_nil, ws_pass, ws_brk, ws_cnt, ws_ret0, ws_cons, nxt_rt, nxt_bk, nxt_ct, ws_asg, ws_put, ws_expr, ws_ret, ws_ite, we_var, we_int, we_str, we_bl, we_non, we_nopart, we_gint, we_gfn, we_bin, we_neg, we_cmp, we_chain, we_andd, we_orr, we_one, we_nott, we_ite, wl_nil, wl_cons, we_tup, we_lst, we_dct, we_dsp, we_call, we_callv, we_bi, we_isi, isi_non, isi_bl, isi_int, isi_str, isi_tup, isi_lst, isi_dK, isi_dT, we_ix, we_slc, we_rev, we_me, we_frz, we_rng, wf_rt, wf_nx, wr_ok, wr_opt, wr_grd, wr_err, asgD, deref_int, deref_tup, deref_lst, deref_str, deref_bl, deref_non, deref_dK, deref_dT, deref_scr, deref_fn, isObj, bin_add, bin_addS, bin_addT, bin_addL, bin_sub, bin_mul, bin_mulL, bin_mulT, bin_fdiv, bin_mod, bin_pow, cmp_eq, cmp_ne, cmp_lt, cmp_le, cmp_gt, cmp_ge, cmp_isB, cmp_isnotB, cmp_is, cmp_isnot, cmp_inn, cmp_notin, eq_int, eq_str, eq_bl, tru_non, tru_bl, tru_int, tru_tup, tru_lst, tru_dK, ix_tup, ix_lst, ix_dK, ix_dT, bi_lenT, bi_lenL, bi_lenS, bi_int, bi_intB, bi_tupT, bi_tupL, bi_lisT, bi_lisL, bi_repr, bi_all, bi_any, bi_sum, bi_max, bi_min, bi_abs, bi_gcd, in_lst, in_tup, in_dK, in_dT, get_dKi, get_dKs, get_dTt, put_dKi, put_dKs, put_dTt, put_lst, key_int, key_str, keys_nil, keys_cons, slc_tup, slc_lst, slc_scr, end_t, end_f, ty_app, ty_pop, ty_ext, ty_getK, ty_getT, ok_int, ok_str, ok_non, isNop, and_assoc, at_0, at_1, at_2, at_3, dr, ix_here, de_res, rs, on_told]
          rw [nxt_nx]
          try simp [ws_nil, ws_pass, ws_brk, ws_cnt, ws_ret0, ws_cons, nxt_rt, nxt_bk, nxt_ct, ws_asg, ws_put, ws_expr, ws_ret, ws_ite, we_var, we_int, we_str, we_bl, we_non, we_nopart, we_gint, we_gfn, we_bin, we_neg, we_cmp, we_chain, we_andd, we_orr, we_one, we_nott, we_ite, wl_nil, wl_cons, we_tup, we_lst, we_dct, we_dsp, we_call, we_callv, we_bi, we_isi, isi_non, isi_bl, isi_int, isi_str, isi_tup, isi_lst, isi_dK, isi_dT, we_ix, we_slc, we_rev, we_me, we_frz, we_rng, wf_rt, wf_nx, wr_ok, wr_opt, wr_grd, wr_err, asgD, deref_int, deref_tup, deref_lst, deref_str, deref_bl, deref_non, deref_dK, deref_dT, deref_scr, deref_fn, isObj, bin_add, bin_addS, bin_addT, bin_addL, bin_sub, bin_mul, bin_mulL, bin_mulT, bin_fdiv, bin_mod, bin_pow, cmp_eq, cmp_ne, cmp_lt, cmp_le, cmp_gt, cmp_ge, cmp_isB, cmp_isnotB, cmp_is, cmp_isnot, cmp_inn, cmp_notin, eq_int, eq_str, eq_bl, tru_non, tru_bl, tru_int, tru_tup, tru_lst, tru_dK, ix_tup, ix_lst, ix_dK, ix_dT, bi_lenT, bi_lenL, bi_lenS, bi_int, bi_intB, bi_tupT, bi_tupL, bi_lisT, bi_lisL, bi_repr, bi_all, bi_any, bi_sum, bi_max, bi_min, bi_abs, bi_gcd, in_lst, in_tup, in_dK, in_dT, get_dKi, get_dKs, get_dTt, put_dKi, put_dKs, put_dTt, put_lst, key_int, key_str, keys_nil, keys_cons, slc_tup, slc_lst, slc_scr, end_t, end_f, ty_app, ty_pop, ty_ext, ty_getK, ty_getT, ok_int, ok_str, ok_non, isNop, and_assoc, at_0, at_1, at_2, at_3, dr, ix_here, ix_spot, de_res, rs, lt, lt2]
          rw [nxt_nx, ws_nil]
          exact ⟨⟨_, _, _, _, _, _, _, rfl⟩, rfl⟩
      · rintro σ h' ⟨e4, e5, e6, e7, e8, e9, e10, rfl, rfl⟩
        rw [nxt_nx]
        try simp [ws_nil, ws_pass, ws_brk, ws_cnt, ws_ret0, ws_cons, nxt_rt, nxt_bk, nxt_ct, ws_asg, ws_put, ws_expr, ws_ret, ws_ite, we_var, we_int, we_str, we_bl, we_non, we_nopart, we_gint, we_gfn, we_bin, we_neg, we_cmp, we_chain, we_andd, we_orr, we_one, we_nott, we_ite, wl_nil, wl_cons, we_tup, we_lst, we_dct, we_dsp, we_call, we_callv, we_bi, we_isi, isi_non, isi_bl, isi_int, isi_str, isi_tup, isi_lst, isi_dK, isi_dT, we_ix, we_slc, we_rev, we_me, we_frz, we_rng, wf_rt, wf_nx, wr_ok, wr_opt, wr_grd, wr_err, asgD, deref_int, deref_tup, deref_lst, deref_str, deref_bl, deref_non, deref_dK, deref_dT, deref_scr, deref_fn, isObj, bin_add, bin_addS, bin_addT, bin_addL, bin_sub, bin_mul, bin_mulL, bin_mulT, bin_fdiv, bin_mod, bin_pow, cmp_eq, cmp_ne, cmp_lt, cmp_le, cmp_gt, cmp_ge, cmp_isB, cmp_isnotB, cmp_is, cmp_isnot, cmp_inn, cmp_notin, eq_int, eq_str, eq_bl, tru_non, tru_bl, tru_int, tru_tup, tru_lst, tru_dK, ix_tup, ix_lst, ix_dK, ix_dT, bi_lenT, bi_lenL, bi_lenS, bi_int, bi_intB, bi_tupT, bi_tupL, bi_lisT, bi_lisL, bi_repr, bi_all, bi_any, bi_sum, bi_max, bi_min, bi_abs, bi_gcd, in_lst, in_tup, in_dK, in_dT, get_dKi, get_dKs, get_dTt, put_dKi, put_dKs, put_dTt, put_lst, key_int, key_str, keys_nil, keys_cons, slc_tup, slc_lst, slc_scr, end_t, end_f, ty_app, ty_pop, ty_ext, ty_getK, ty_getT, ok_int, ok_str, ok_non, isNop, and_assoc, at_0, at_1, at_2, at_3]
        refine wr_fin2 rfl ?_ (w d' (m'.mono (by simp)))
        rw [List.take_append_of_le_length (by simp), List.take_of_length_le (by simp)]
theorem mac_ok {n : Nat} (wf : WfM sizes levs) : D.okR n (macD sizes levs) = true := by
  show (D.okR n (natsD sizes) && (D.okR n (levsD levs) && true)) = true
  have e2 : D.okR n (levsD levs) = true := by
    unfold levsD D.okR
    refine okRs_levs fun lv hm s hs => ?_
    obtain ⟨t, ht⟩ := List.mem_iff_getElem?.mp hm
    exact ⟨_, _, (wf.lv t lv ht).2.2 s hs⟩
  rw [okR_nats, e2]; rfl
theorem mac_text (wf : WfM sizes levs) : ∃ x, reprD (macD sizes levs) = some (.str x) := by
  have L2 := wf.l2
  have dl : ∀ lv ∈ levs, Dat 3 25000 (levD lv) := fun lv hm => by
    obtain ⟨t, ht⟩ := List.mem_iff_getElem?.mp hm
    obtain ⟨v1, v2, v3⟩ := wf.lv t lv ht
    have ms : t % sizes.length < sizes.length := Nat.mod_lt t wf.s1
    have sz : sizes.getD (t % sizes.length) 0 ≤ 9 := by
      rw [getD_some (List.getElem?_eq_getElem ms)]
      have := (wf.s3 _ (List.getElem_mem ms)).2
      omega
    have bl : (levs.getD (t + 1) []).length ≤ 100 := by
      by_cases h1 : t + 1 < levs.length
      · rw [getD_some (List.getElem?_eq_getElem h1)]
        have := (wf.lv (t + 1) _ (List.getElem?_eq_getElem h1)).2.1
        omega
      · rw [getD_none (by omega)]; simp
    exact (Dat.tup (Dats.all (dep := 2) (s := 2000) fun d hd => by
      obtain ⟨s, hs, rfl⟩ := List.mem_map.mp hd
      exact Sta.dat (v3 s hs) sz bl)).mono (by decide) (by rw [List.length_map]; omega)
  have d1 : Dat 4 2600000 (levsD levs) := (Dat.tup (Dats.all (dep := 3) (s := 25000) fun d hd => by
    obtain ⟨lv, hm, rfl⟩ := List.mem_map.mp hd
    exact dl lv hm)).mono (by decide) (by rw [List.length_map]; omega)
  have d2 : Dat 1 1000 (natsD sizes) := (dat_nats (l := sizes) (m := 9) (fun n hn => by have := wf.s3 n hn; omega) (by decide)).mono (Nat.le_refl _) (by have := wf.s2; omega)
  have d3 : Dat 5 2700000 (macD sizes levs) := (Dat.tup (Dats.cons (d2.mono (by decide) (Nat.le_refl _)) (Dats.cons d1 .nil))).mono (by decide) (by decide)
  exact d3.text (by decide) (by decide)
theorem p14 : prg[14]? = some (begunF 127 10 31 43) := rfl
theorem c_turn {ns : List Int} {x1 x3 x4 x5 x6 x7 x8 x9 : Option D} {Q : Fl → Env → MH → Prop} (hi : h[i]? = some d) (m : Mach6 b d) (hb : b < 1000)
    (w : ∀ (x3 x4 x5 x6 x7 x8 x9 : Option D) (h' : MH), Q .nx [some (.scr (ns.map .int)), x1, some (.ref i), x3, x4, x5, x6, x7, x8, x9] h') :
    Ws (callF prg (k + 6)) (match f_law.body with
      | .cons (.forr _ _ (.cons _ r)) _ => r
      | _ => .nil) [some (.scr (ns.map .int)), x1, some (.ref i), x3, x4, x5, x6, x7, x8, x9] h Q := by
  have hl := lt_of_get hi
  show Ws _ (.cons _ (.cons _ _)) _ _ _
  rw [ws_cons, ws_asg, we_call, wl_cons, we_var]
  refine ⟨_, rfl, ?_⟩
  refine wl_nil.mpr ?_
  refine c_sizes hi m (by omega) fun sizes d1 s1 s2 s3 m1 => ?_
  refine ⟨_, rfl, ?_⟩
  rw [nxt_nx, ws_cons, ws_asg, we_call, wl_cons, we_var]
  refine ⟨_, rfl, ?_⟩
  rw [wl_cons, we_var]
  refine ⟨_, rfl, ?_⟩
  rw [wl_cons, we_bin, we_int, we_call, wl_cons, we_var]
  refine ⟨_, rfl, ?_⟩
  rw [wl_cons, we_int]
  refine wl_nil.mpr ?_
  refine m_drawN (j := 15) (below := 6) p15 (get_set hl) m1 (by omega) (by decide) (by decide) fun r d2 hr m2 => ?_
  rw [List.set_set]
  refine ⟨_, bin_add, ?_⟩
  rw [if_neg (by simp)]
  try simp [ws_nil, ws_pass, ws_brk, ws_cnt, ws_ret0, ws_cons, nxt_rt, nxt_bk, nxt_ct, ws_asg, ws_put, ws_expr, ws_ret, ws_ite, we_var, we_int, we_str, we_bl, we_non, we_nopart, we_gint, we_gfn, we_bin, we_neg, we_cmp, we_chain, we_andd, we_orr, we_one, we_nott, we_ite, wl_nil, wl_cons, we_tup, we_lst, we_dct, we_dsp, we_call, we_callv, we_bi, we_isi, isi_non, isi_bl, isi_int, isi_str, isi_tup, isi_lst, isi_dK, isi_dT, we_ix, we_slc, we_rev, we_me, we_frz, we_rng, wf_rt, wf_nx, wr_ok, wr_opt, wr_grd, wr_err, asgD, deref_int, deref_tup, deref_lst, deref_str, deref_bl, deref_non, deref_dK, deref_dT, deref_scr, deref_fn, isObj, bin_add, bin_addS, bin_addT, bin_addL, bin_sub, bin_mul, bin_mulL, bin_mulT, bin_fdiv, bin_mod, bin_pow, cmp_eq, cmp_ne, cmp_lt, cmp_le, cmp_gt, cmp_ge, cmp_isB, cmp_isnotB, cmp_is, cmp_isnot, cmp_inn, cmp_notin, eq_int, eq_str, eq_bl, tru_non, tru_bl, tru_int, tru_tup, tru_lst, tru_dK, ix_tup, ix_lst, ix_dK, ix_dT, bi_lenT, bi_lenL, bi_lenS, bi_int, bi_intB, bi_tupT, bi_tupL, bi_lisT, bi_lisL, bi_repr, bi_all, bi_any, bi_sum, bi_max, bi_min, bi_abs, bi_gcd, in_lst, in_tup, in_dK, in_dT, get_dKi, get_dKs, get_dTt, put_dKi, put_dKs, put_dTt, put_lst, key_int, key_str, keys_nil, keys_cons, slc_tup, slc_lst, slc_scr, end_t, end_f, ty_app, ty_pop, ty_ext, ty_getK, ty_getT, ok_int, ok_str, ok_non, isNop, and_assoc, at_0, at_1, at_2, at_3, szL]
  have e1 : (1 : Int) + (r : Int) = ((1 + r : Nat) : Int) := by omega
  rw [e1]
  refine c_draw_machine (get_set hl) m2 (by omega) ⟨by omega, by omega⟩ s1 s2 s3 fun levs d3 wf lm m3 => ?_
  rw [List.set_set]
  obtain ⟨x, ex⟩ := mac_text wf
  have ll : biD .len [levsD levs] = some (.int levs.length) := by unfold levsD; rw [bi_lenT, List.length_map]
  have e5 : (if (levs.length : Int) - 1 < 5 then (levs.length : Int) - 1 else 5) = ((levs.length - 1 : Nat) : Int) := by
    have := wf.l1
    split <;> omega
  rw [nxt_nx]
  try simp [ws_nil, ws_pass, ws_brk, ws_cnt, ws_ret0, ws_cons, nxt_rt, nxt_bk, nxt_ct, ws_asg, ws_put, ws_expr, ws_ret, ws_ite, we_var, we_int, we_str, we_bl, we_non, we_nopart, we_gint, we_gfn, we_bin, we_neg, we_cmp, we_chain, we_andd, we_orr, we_one, we_nott, we_ite, wl_nil, wl_cons, we_tup, we_lst, we_dct, we_dsp, we_call, we_callv, we_bi, we_isi, isi_non, isi_bl, isi_int, isi_str, isi_tup, isi_lst, isi_dK, isi_dT, we_ix, we_slc, we_rev, we_me, we_frz, we_rng, wf_rt, wf_nx, wr_ok, wr_opt, wr_grd, wr_err, asgD, deref_int, deref_tup, deref_lst, deref_str, deref_bl, deref_non, deref_dK, deref_dT, deref_scr, deref_fn, isObj, bin_add, bin_addS, bin_addT, bin_addL, bin_sub, bin_mul, bin_mulL, bin_mulT, bin_fdiv, bin_mod, bin_pow, cmp_eq, cmp_ne, cmp_lt, cmp_le, cmp_gt, cmp_ge, cmp_isB, cmp_isnotB, cmp_is, cmp_isnot, cmp_inn, cmp_notin, eq_int, eq_str, eq_bl, tru_non, tru_bl, tru_int, tru_tup, tru_lst, tru_dK, ix_tup, ix_lst, ix_dK, ix_dT, bi_lenT, bi_lenL, bi_lenS, bi_int, bi_intB, bi_tupT, bi_tupL, bi_lisT, bi_lisL, bi_repr, bi_all, bi_any, bi_sum, bi_max, bi_min, bi_abs, bi_gcd, in_lst, in_tup, in_dK, in_dT, get_dKi, get_dKs, get_dTt, put_dKi, put_dKs, put_dTt, put_lst, key_int, key_str, keys_nil, keys_cons, slc_tup, slc_lst, slc_scr, end_t, end_f, ty_app, ty_pop, ty_ext, ty_getK, ty_getT, ok_int, ok_str, ok_non, isNop, and_assoc, at_0, at_1, at_2, at_3, de_mac, ex, ix_mac1, de_levs, ll, szL, e5]
  refine c_words (by omega) s1 s3 fun words ww => ?_
  rw [nxt_nx, ws_cons, ws_asg, we_bi, wl_cons]
  refine we_mapS levs levD (fun lv => .int lv.length) ?_ (by unfold szL; omega) ?_ ?_
  · try simp [ws_nil, ws_pass, ws_brk, ws_cnt, ws_ret0, ws_cons, nxt_rt, nxt_bk, nxt_ct, ws_asg, ws_put, ws_expr, ws_ret, ws_ite, we_var, we_int, we_str, we_bl, we_non, we_nopart, we_gint, we_gfn, we_bin, we_neg, we_cmp, we_chain, we_andd, we_orr, we_one, we_nott, we_ite, wl_nil, wl_cons, we_tup, we_lst, we_dct, we_dsp, we_call, we_callv, we_bi, we_isi, isi_non, isi_bl, isi_int, isi_str, isi_tup, isi_lst, isi_dK, isi_dT, we_ix, we_slc, we_rev, we_me, we_frz, we_rng, wf_rt, wf_nx, wr_ok, wr_opt, wr_grd, wr_err, asgD, deref_int, deref_tup, deref_lst, deref_str, deref_bl, deref_non, deref_dK, deref_dT, deref_scr, deref_fn, isObj, bin_add, bin_addS, bin_addT, bin_addL, bin_sub, bin_mul, bin_mulL, bin_mulT, bin_fdiv, bin_mod, bin_pow, cmp_eq, cmp_ne, cmp_lt, cmp_le, cmp_gt, cmp_ge, cmp_isB, cmp_isnotB, cmp_is, cmp_isnot, cmp_inn, cmp_notin, eq_int, eq_str, eq_bl, tru_non, tru_bl, tru_int, tru_tup, tru_lst, tru_dK, ix_tup, ix_lst, ix_dK, ix_dT, bi_lenT, bi_lenL, bi_lenS, bi_int, bi_intB, bi_tupT, bi_tupL, bi_lisT, bi_lisL, bi_repr, bi_all, bi_any, bi_sum, bi_max, bi_min, bi_abs, bi_gcd, in_lst, in_tup, in_dK, in_dT, get_dKi, get_dKs, get_dTt, put_dKi, put_dKs, put_dTt, put_lst, key_int, key_str, keys_nil, keys_cons, slc_tup, slc_lst, slc_scr, end_t, end_f, ty_app, ty_pop, ty_ext, ty_getK, ty_getT, ok_int, ok_str, ok_non, isNop, and_assoc, at_0, at_1, at_2, at_3, de_mac, ix_mac1]
    rfl
  · intro j lv hj
    refine ⟨_, rfl, ?_⟩
    have lx : biD .len [levD lv] = some (.int lv.length) := by unfold levD; rw [bi_lenT, List.length_map]
    try simp [ws_nil, ws_pass, ws_brk, ws_cnt, ws_ret0, ws_cons, nxt_rt, nxt_bk, nxt_ct, ws_asg, ws_put, ws_expr, ws_ret, ws_ite, we_var, we_int, we_str, we_bl, we_non, we_nopart, we_gint, we_gfn, we_bin, we_neg, we_cmp, we_chain, we_andd, we_orr, we_one, we_nott, we_ite, wl_nil, wl_cons, we_tup, we_lst, we_dct, we_dsp, we_call, we_callv, we_bi, we_isi, isi_non, isi_bl, isi_int, isi_str, isi_tup, isi_lst, isi_dK, isi_dT, we_ix, we_slc, we_rev, we_me, we_frz, we_rng, wf_rt, wf_nx, wr_ok, wr_opt, wr_grd, wr_err, asgD, deref_int, deref_tup, deref_lst, deref_str, deref_bl, deref_non, deref_dK, deref_dT, deref_scr, deref_fn, isObj, bin_add, bin_addS, bin_addT, bin_addL, bin_sub, bin_mul, bin_mulL, bin_mulT, bin_fdiv, bin_mod, bin_pow, cmp_eq, cmp_ne, cmp_lt, cmp_le, cmp_gt, cmp_ge, cmp_isB, cmp_isnotB, cmp_is, cmp_isnot, cmp_inn, cmp_notin, eq_int, eq_str, eq_bl, tru_non, tru_bl, tru_int, tru_tup, tru_lst, tru_dK, ix_tup, ix_lst, ix_dK, ix_dT, bi_lenT, bi_lenL, bi_lenS, bi_int, bi_intB, bi_tupT, bi_tupL, bi_lisT, bi_lisL, bi_repr, bi_all, bi_any, bi_sum, bi_max, bi_min, bi_abs, bi_gcd, in_lst, in_tup, in_dK, in_dT, get_dKi, get_dKs, get_dTt, put_dKi, put_dKs, put_dTt, put_lst, key_int, key_str, keys_nil, keys_cons, slc_tup, slc_lst, slc_scr, end_t, end_f, ty_app, ty_pop, ty_ext, ty_getK, ty_getT, ok_int, ok_str, ok_non, isNop, and_assoc, at_0, at_1, at_2, at_3, wipeD, de_lev, lx]
  rw [if_neg (by decide), wl_nil]
  refine ⟨_, rfl, ?_⟩
  rw [if_neg (by simp)]
  have ec : (D.tup (levs.map fun lv => D.int lv.length)) = natsD (levs.map List.length) := by
    unfold natsD
    rw [List.map_map]; rfl
  rw [ec]
  obtain ⟨y, ey⟩ : ∃ y, reprD (natsD (levs.map List.length)) = some (.str y) := by
    have dd := dat_nats (l := levs.map List.length) (m := 10) (fun n hn => by
      obtain ⟨lv, hm, rfl⟩ := List.mem_map.mp hn
      obtain ⟨t, ht⟩ := List.mem_iff_getElem?.mp hm
      exact (wf.lv t lv ht).2.1) (by decide)
    have dd2 : Dat 1 1000 (natsD (levs.map List.length)) := dd.mono (Nat.le_refl _) (by rw [List.length_map]; omega)
    exact dd2.text (by decide) (by decide)
  refine ⟨_, rfl, ?_⟩
  rw [nxt_nx, ws_cons]
  try simp [ws_nil, ws_pass, ws_brk, ws_cnt, ws_ret0, ws_cons, nxt_rt, nxt_bk, nxt_ct, ws_asg, ws_put, ws_expr, ws_ret, ws_ite, we_var, we_int, we_str, we_bl, we_non, we_nopart, we_gint, we_gfn, we_bin, we_neg, we_cmp, we_chain, we_andd, we_orr, we_one, we_nott, we_ite, wl_nil, wl_cons, we_tup, we_lst, we_dct, we_dsp, we_call, we_callv, we_bi, we_isi, isi_non, isi_bl, isi_int, isi_str, isi_tup, isi_lst, isi_dK, isi_dT, we_ix, we_slc, we_rev, we_me, we_frz, we_rng, wf_rt, wf_nx, wr_ok, wr_opt, wr_grd, wr_err, asgD, deref_int, deref_tup, deref_lst, deref_str, deref_bl, deref_non, deref_dK, deref_dT, deref_scr, deref_fn, isObj, bin_add, bin_addS, bin_addT, bin_addL, bin_sub, bin_mul, bin_mulL, bin_mulT, bin_fdiv, bin_mod, bin_pow, cmp_eq, cmp_ne, cmp_lt, cmp_le, cmp_gt, cmp_ge, cmp_isB, cmp_isnotB, cmp_is, cmp_isnot, cmp_inn, cmp_notin, eq_int, eq_str, eq_bl, tru_non, tru_bl, tru_int, tru_tup, tru_lst, tru_dK, ix_tup, ix_lst, ix_dK, ix_dT, bi_lenT, bi_lenL, bi_lenS, bi_int, bi_intB, bi_tupT, bi_tupL, bi_lisT, bi_lisL, bi_repr, bi_all, bi_any, bi_sum, bi_max, bi_min, bi_abs, bi_gcd, in_lst, in_tup, in_dK, in_dT, get_dKi, get_dKs, get_dTt, put_dKi, put_dKs, put_dTt, put_lst, key_int, key_str, keys_nil, keys_cons, slc_tup, slc_lst, slc_scr, end_t, end_f, ty_app, ty_pop, ty_ext, ty_getK, ty_getT, ok_int, ok_str, ok_non, isNop, and_assoc, at_0, at_1, at_2, at_3]
  refine c_machine wf ?_
  try simp [ws_nil, ws_pass, ws_brk, ws_cnt, ws_ret0, ws_cons, nxt_rt, nxt_bk, nxt_ct, ws_asg, ws_put, ws_expr, ws_ret, ws_ite, we_var, we_int, we_str, we_bl, we_non, we_nopart, we_gint, we_gfn, we_bin, we_neg, we_cmp, we_chain, we_andd, we_orr, we_one, we_nott, we_ite, wl_nil, wl_cons, we_tup, we_lst, we_dct, we_dsp, we_call, we_callv, we_bi, we_isi, isi_non, isi_bl, isi_int, isi_str, isi_tup, isi_lst, isi_dK, isi_dT, we_ix, we_slc, we_rev, we_me, we_frz, we_rng, wf_rt, wf_nx, wr_ok, wr_opt, wr_grd, wr_err, asgD, deref_int, deref_tup, deref_lst, deref_str, deref_bl, deref_non, deref_dK, deref_dT, deref_scr, deref_fn, isObj, bin_add, bin_addS, bin_addT, bin_addL, bin_sub, bin_mul, bin_mulL, bin_mulT, bin_fdiv, bin_mod, bin_pow, cmp_eq, cmp_ne, cmp_lt, cmp_le, cmp_gt, cmp_ge, cmp_isB, cmp_isnotB, cmp_is, cmp_isnot, cmp_inn, cmp_notin, eq_int, eq_str, eq_bl, tru_non, tru_bl, tru_int, tru_tup, tru_lst, tru_dK, ix_tup, ix_lst, ix_dK, ix_dT, bi_lenT, bi_lenL, bi_lenS, bi_int, bi_intB, bi_tupT, bi_tupL, bi_lisT, bi_lisL, bi_repr, bi_all, bi_any, bi_sum, bi_max, bi_min, bi_abs, bi_gcd, in_lst, in_tup, in_dK, in_dT, get_dKi, get_dKs, get_dTt, put_dKi, put_dKs, put_dTt, put_lst, key_int, key_str, keys_nil, keys_cons, slc_tup, slc_lst, slc_scr, end_t, end_f, ty_app, ty_pop, ty_ext, ty_getK, ty_getT, ok_int, ok_str, ok_non, isNop, and_assoc, at_0, at_1, at_2, at_3]
  refine c_states (by omega) ?_
  try simp [ws_nil, ws_pass, ws_brk, ws_cnt, ws_ret0, ws_cons, nxt_rt, nxt_bk, nxt_ct, ws_asg, ws_put, ws_expr, ws_ret, ws_ite, we_var, we_int, we_str, we_bl, we_non, we_nopart, we_gint, we_gfn, we_bin, we_neg, we_cmp, we_chain, we_andd, we_orr, we_one, we_nott, we_ite, wl_nil, wl_cons, we_tup, we_lst, we_dct, we_dsp, we_call, we_callv, we_bi, we_isi, isi_non, isi_bl, isi_int, isi_str, isi_tup, isi_lst, isi_dK, isi_dT, we_ix, we_slc, we_rev, we_me, we_frz, we_rng, wf_rt, wf_nx, wr_ok, wr_opt, wr_grd, wr_err, asgD, deref_int, deref_tup, deref_lst, deref_str, deref_bl, deref_non, deref_dK, deref_dT, deref_scr, deref_fn, isObj, bin_add, bin_addS, bin_addT, bin_addL, bin_sub, bin_mul, bin_mulL, bin_mulT, bin_fdiv, bin_mod, bin_pow, cmp_eq, cmp_ne, cmp_lt, cmp_le, cmp_gt, cmp_ge, cmp_isB, cmp_isnotB, cmp_is, cmp_isnot, cmp_inn, cmp_notin, eq_int, eq_str, eq_bl, tru_non, tru_bl, tru_int, tru_tup, tru_lst, tru_dK, ix_tup, ix_lst, ix_dK, ix_dT, bi_lenT, bi_lenL, bi_lenS, bi_int, bi_intB, bi_tupT, bi_tupL, bi_lisT, bi_lisL, bi_repr, bi_all, bi_any, bi_sum, bi_max, bi_min, bi_abs, bi_gcd, in_lst, in_tup, in_dK, in_dT, get_dKi, get_dKs, get_dTt, put_dKi, put_dKs, put_dTt, put_lst, key_int, key_str, keys_nil, keys_cons, slc_tup, slc_lst, slc_scr, end_t, end_f, ty_app, ty_pop, ty_ext, ty_getK, ty_getT, ok_int, ok_str, ok_non, isNop, and_assoc, at_0, at_1, at_2, at_3, de_nats, ey]
  rw [nxt_nx, ws_cons]
  refine ws_forW (I := fun n σ h' => ∃ (x9 : Option D), σ = [some (.scr (ns.map .int)), x1, some (.ref i), some (natsD sizes), some (macD sizes levs), some (.str x), some (wordsD words), some (natsD (levs.map List.length)), x8, x9] ∧ h' = h.set i d3) (words.map natsD) ?_ ?_ ?_
  · rw [we_var]
    exact ⟨_, rfl, rfl, _, rfl, rfl⟩
  · rintro j z σ h' hz ⟨x9', rfl, rfl⟩
    rw [List.getElem?_map] at hz
    cases hu : words[j]? with
    | none => rw [hu] at hz; cases hz
    | some u =>
      rw [hu] at hz
      cases hz
      obtain ⟨ul, ur⟩ := ww.2.2 u (List.mem_of_getElem? hu)
      refine ⟨_, rfl, ?_⟩
      try simp [ws_nil, ws_pass, ws_brk, ws_cnt, ws_ret0, ws_cons, nxt_rt, nxt_bk, nxt_ct, ws_asg, ws_put, ws_expr, ws_ret, ws_ite, we_var, we_int, we_str, we_bl, we_non, we_nopart, we_gint, we_gfn, we_bin, we_neg, we_cmp, we_chain, we_andd, we_orr, we_one, we_nott, we_ite, wl_nil, wl_cons, we_tup, we_lst, we_dct, we_dsp, we_call, we_callv, we_bi, we_isi, isi_non, isi_bl, isi_int, isi_str, isi_tup, isi_lst, isi_dK, isi_dT, we_ix, we_slc, we_rev, we_me, we_frz, we_rng, wf_rt, wf_nx, wr_ok, wr_opt, wr_grd, wr_err, asgD, deref_int, deref_tup, deref_lst, deref_str, deref_bl, deref_non, deref_dK, deref_dT, deref_scr, deref_fn, isObj, bin_add, bin_addS, bin_addT, bin_addL, bin_sub, bin_mul, bin_mulL, bin_mulT, bin_fdiv, bin_mod, bin_pow, cmp_eq, cmp_ne, cmp_lt, cmp_le, cmp_gt, cmp_ge, cmp_isB, cmp_isnotB, cmp_is, cmp_isnot, cmp_inn, cmp_notin, eq_int, eq_str, eq_bl, tru_non, tru_bl, tru_int, tru_tup, tru_lst, tru_dK, ix_tup, ix_lst, ix_dK, ix_dT, bi_lenT, bi_lenL, bi_lenS, bi_int, bi_intB, bi_tupT, bi_tupL, bi_lisT, bi_lisL, bi_repr, bi_all, bi_any, bi_sum, bi_max, bi_min, bi_abs, bi_gcd, in_lst, in_tup, in_dK, in_dT, get_dKi, get_dKs, get_dTt, put_dKi, put_dKs, put_dTt, put_lst, key_int, key_str, keys_nil, keys_cons, slc_tup, slc_lst, slc_scr, end_t, end_f, ty_app, ty_pop, ty_ext, ty_getK, ty_getT, ok_int, ok_str, ok_non, isNop, and_assoc, at_0, at_1, at_2, at_3]
      refine c_word_right wf ur (by omega) ?_
      try simp [ws_nil, ws_pass, ws_brk, ws_cnt, ws_ret0, ws_cons, nxt_rt, nxt_bk, nxt_ct, ws_asg, ws_put, ws_expr, ws_ret, ws_ite, we_var, we_int, we_str, we_bl, we_non, we_nopart, we_gint, we_gfn, we_bin, we_neg, we_cmp, we_chain, we_andd, we_orr, we_one, we_nott, we_ite, wl_nil, wl_cons, we_tup, we_lst, we_dct, we_dsp, we_call, we_callv, we_bi, we_isi, isi_non, isi_bl, isi_int, isi_str, isi_tup, isi_lst, isi_dK, isi_dT, we_ix, we_slc, we_rev, we_me, we_frz, we_rng, wf_rt, wf_nx, wr_ok, wr_opt, wr_grd, wr_err, asgD, deref_int, deref_tup, deref_lst, deref_str, deref_bl, deref_non, deref_dK, deref_dT, deref_scr, deref_fn, isObj, bin_add, bin_addS, bin_addT, bin_addL, bin_sub, bin_mul, bin_mulL, bin_mulT, bin_fdiv, bin_mod, bin_pow, cmp_eq, cmp_ne, cmp_lt, cmp_le, cmp_gt, cmp_ge, cmp_isB, cmp_isnotB, cmp_is, cmp_isnot, cmp_inn, cmp_notin, eq_int, eq_str, eq_bl, tru_non, tru_bl, tru_int, tru_tup, tru_lst, tru_dK, ix_tup, ix_lst, ix_dK, ix_dT, bi_lenT, bi_lenL, bi_lenS, bi_int, bi_intB, bi_tupT, bi_tupL, bi_lisT, bi_lisL, bi_repr, bi_all, bi_any, bi_sum, bi_max, bi_min, bi_abs, bi_gcd, in_lst, in_tup, in_dK, in_dT, get_dKi, get_dKs, get_dTt, put_dKi, put_dKs, put_dTt, put_lst, key_int, key_str, keys_nil, keys_cons, slc_tup, slc_lst, slc_scr, end_t, end_f, ty_app, ty_pop, ty_ext, ty_getK, ty_getT, ok_int, ok_str, ok_non, isNop, and_assoc, at_0, at_1, at_2, at_3]
      rw [nxt_nx, ws_nil]
      exact ⟨⟨_, rfl⟩, rfl⟩
  · rintro σ h' ⟨x9', rfl, rfl⟩
    rw [nxt_nx]
    try simp [ws_nil, ws_pass, ws_brk, ws_cnt, ws_ret0, ws_cons, nxt_rt, nxt_bk, nxt_ct, ws_asg, ws_put, ws_expr, ws_ret, ws_ite, we_var, we_int, we_str, we_bl, we_non, we_nopart, we_gint, we_gfn, we_bin, we_neg, we_cmp, we_chain, we_andd, we_orr, we_one, we_nott, we_ite, wl_nil, wl_cons, we_tup, we_lst, we_dct, we_dsp, we_call, we_callv, we_bi, we_isi, isi_non, isi_bl, isi_int, isi_str, isi_tup, isi_lst, isi_dK, isi_dT, we_ix, we_slc, we_rev, we_me, we_frz, we_rng, wf_rt, wf_nx, wr_ok, wr_opt, wr_grd, wr_err, asgD, deref_int, deref_tup, deref_lst, deref_str, deref_bl, deref_non, deref_dK, deref_dT, deref_scr, deref_fn, isObj, bin_add, bin_addS, bin_addT, bin_addL, bin_sub, bin_mul, bin_mulL, bin_mulT, bin_fdiv, bin_mod, bin_pow, cmp_eq, cmp_ne, cmp_lt, cmp_le, cmp_gt, cmp_ge, cmp_isB, cmp_isnotB, cmp_is, cmp_isnot, cmp_inn, cmp_notin, eq_int, eq_str, eq_bl, tru_non, tru_bl, tru_int, tru_tup, tru_lst, tru_dK, ix_tup, ix_lst, ix_dK, ix_dT, bi_lenT, bi_lenL, bi_lenS, bi_int, bi_intB, bi_tupT, bi_tupL, bi_lisT, bi_lisL, bi_repr, bi_all, bi_any, bi_sum, bi_max, bi_min, bi_abs, bi_gcd, in_lst, in_tup, in_dK, in_dT, get_dKi, get_dKs, get_dTt, put_dKi, put_dKs, put_dTt, put_lst, key_int, key_str, keys_nil, keys_cons, slc_tup, slc_lst, slc_scr, end_t, end_f, ty_app, ty_pop, ty_ext, ty_getK, ty_getT, ok_int, ok_str, ok_non, isNop, and_assoc, at_0, at_1, at_2, at_3]
    refine c_turns (get_set hl) m3 (by omega) wf (by omega) ww fun d4 m4 => ?_
    rw [List.set_set]
    try simp [ws_nil, ws_pass, ws_brk, ws_cnt, ws_ret0, ws_cons, nxt_rt, nxt_bk, nxt_ct, ws_asg, ws_put, ws_expr, ws_ret, ws_ite, we_var, we_int, we_str, we_bl, we_non, we_nopart, we_gint, we_gfn, we_bin, we_neg, we_cmp, we_chain, we_andd, we_orr, we_one, we_nott, we_ite, wl_nil, wl_cons, we_tup, we_lst, we_dct, we_dsp, we_call, we_callv, we_bi, we_isi, isi_non, isi_bl, isi_int, isi_str, isi_tup, isi_lst, isi_dK, isi_dT, we_ix, we_slc, we_rev, we_me, we_frz, we_rng, wf_rt, wf_nx, wr_ok, wr_opt, wr_grd, wr_err, asgD, deref_int, deref_tup, deref_lst, deref_str, deref_bl, deref_non, deref_dK, deref_dT, deref_scr, deref_fn, isObj, bin_add, bin_addS, bin_addT, bin_addL, bin_sub, bin_mul, bin_mulL, bin_mulT, bin_fdiv, bin_mod, bin_pow, cmp_eq, cmp_ne, cmp_lt, cmp_le, cmp_gt, cmp_ge, cmp_isB, cmp_isnotB, cmp_is, cmp_isnot, cmp_inn, cmp_notin, eq_int, eq_str, eq_bl, tru_non, tru_bl, tru_int, tru_tup, tru_lst, tru_dK, ix_tup, ix_lst, ix_dK, ix_dT, bi_lenT, bi_lenL, bi_lenS, bi_int, bi_intB, bi_tupT, bi_tupL, bi_lisT, bi_lisL, bi_repr, bi_all, bi_any, bi_sum, bi_max, bi_min, bi_abs, bi_gcd, in_lst, in_tup, in_dK, in_dT, get_dKi, get_dKs, get_dTt, put_dKi, put_dKs, put_dTt, put_lst, key_int, key_str, keys_nil, keys_cons, slc_tup, slc_lst, slc_scr, end_t, end_f, ty_app, ty_pop, ty_ext, ty_getK, ty_getT, ok_int, ok_str, ok_non, isNop, and_assoc, at_0, at_1, at_2, at_3]
    refine c_rows_right (get_set hl) m4 (by omega) wf fun d5 m5 => ?_
    rw [List.set_set]
    try simp [ws_nil, ws_pass, ws_brk, ws_cnt, ws_ret0, ws_cons, nxt_rt, nxt_bk, nxt_ct, ws_asg, ws_put, ws_expr, ws_ret, ws_ite, we_var, we_int, we_str, we_bl, we_non, we_nopart, we_gint, we_gfn, we_bin, we_neg, we_cmp, we_chain, we_andd, we_orr, we_one, we_nott, we_ite, wl_nil, wl_cons, we_tup, we_lst, we_dct, we_dsp, we_call, we_callv, we_bi, we_isi, isi_non, isi_bl, isi_int, isi_str, isi_tup, isi_lst, isi_dK, isi_dT, we_ix, we_slc, we_rev, we_me, we_frz, we_rng, wf_rt, wf_nx, wr_ok, wr_opt, wr_grd, wr_err, asgD, deref_int, deref_tup, deref_lst, deref_str, deref_bl, deref_non, deref_dK, deref_dT, deref_scr, deref_fn, isObj, bin_add, bin_addS, bin_addT, bin_addL, bin_sub, bin_mul, bin_mulL, bin_mulT, bin_fdiv, bin_mod, bin_pow, cmp_eq, cmp_ne, cmp_lt, cmp_le, cmp_gt, cmp_ge, cmp_isB, cmp_isnotB, cmp_is, cmp_isnot, cmp_inn, cmp_notin, eq_int, eq_str, eq_bl, tru_non, tru_bl, tru_int, tru_tup, tru_lst, tru_dK, ix_tup, ix_lst, ix_dK, ix_dT, bi_lenT, bi_lenL, bi_lenS, bi_int, bi_intB, bi_tupT, bi_tupL, bi_lisT, bi_lisL, bi_repr, bi_all, bi_any, bi_sum, bi_max, bi_min, bi_abs, bi_gcd, in_lst, in_tup, in_dK, in_dT, get_dKi, get_dKs, get_dTt, put_dKi, put_dKs, put_dTt, put_lst, key_int, key_str, keys_nil, keys_cons, slc_tup, slc_lst, slc_scr, end_t, end_f, ty_app, ty_pop, ty_ext, ty_getK, ty_getT, ok_int, ok_str, ok_non, isNop, and_assoc, at_0, at_1, at_2, at_3, de_mac, ex]
    rw [nxt_nx, ws_nil]
    exact w _ _ _ _ _ _ _ _
theorem law_true (ns : List Int) (hn : ns.length ≤ 63) : ∃ h', callF tab.P 40 27 [.scr (ns.map .int)] [] = .ok (.bl true, h') := by
  have go : Wc (callF prg (39 + 1)) 27 [.scr (ns.map .int)] [] fun d _ => d = .bl true := by
    refine wc_at (fn := f_law) rfl rfl ?_
    show Ws _ (.cons _ (.cons _ _)) _ _ _
    rw [ws_cons]
    refine ws_forW (I := fun n σ h' => ∃ (x1 x2 x3 x4 x5 x6 x7 x8 x9 : Option D), σ = [some (.scr (ns.map .int)), x1, x2, x3, x4, x5, x6, x7, x8, x9]) ((List.range 2).map fun (n : Nat) => D.int n) ?_ ?_ ?_
    · rw [we_rng, wl_cons, we_int]
      refine wl_nil.mpr ?_
      exact ⟨_, rng_nat (n := 2) (by decide), rfl, _, _, _, _, _, _, _, _, _, rfl⟩
    · rintro j z σ h' hz ⟨x1, x2, x3, x4, x5, x6, x7, x8, x9, rfl⟩
      have hj : j < 2 := by
        have := lt_of_get' hz
        simpa using this
      rw [List.getElem?_map, List.getElem?_range hj] at hz
      cases hz
      refine ⟨_, rfl, ?_⟩
      show Ws _ (.cons _ _) _ _ _
      rw [ws_cons, ws_asg, we_call, wl_cons, we_var]
      refine ⟨_, rfl, ?_⟩
      rw [wl_cons, we_var]
      refine ⟨_, rfl, ?_⟩
      refine wl_nil.mpr ?_
      refine m_begun p14 (mulOk_l (by decide) (by decide)) (mulOk_l (by decide) (by decide)) hn fun m hm => ?_
      refine ⟨_, rfl, ?_⟩
      rw [nxt_nx]
      refine c_turn (h := h' ++ [m]) (i := h'.length) get_o hm (by decide) fun y3 y4 y5 y6 y7 y8 y9 h2 => ?_
      exact ⟨_, _, _, _, _, _, _, _, _, rfl⟩
    · rintro σ h' ⟨x1, x2, x3, x4, x5, x6, x7, x8, x9, rfl⟩
      rw [nxt_nx]
      try simp [ws_nil, ws_pass, ws_brk, ws_cnt, ws_ret0, ws_cons, nxt_rt, nxt_bk, nxt_ct, ws_asg, ws_put, ws_expr, ws_ret, ws_ite, we_var, we_int, we_str, we_bl, we_non, we_nopart, we_gint, we_gfn, we_bin, we_neg, we_cmp, we_chain, we_andd, we_orr, we_one, we_nott, we_ite, wl_nil, wl_cons, we_tup, we_lst, we_dct, we_dsp, we_call, we_callv, we_bi, we_isi, isi_non, isi_bl, isi_int, isi_str, isi_tup, isi_lst, isi_dK, isi_dT, we_ix, we_slc, we_rev, we_me, we_frz, we_rng, wf_rt, wf_nx, wr_ok, wr_opt, wr_grd, wr_err, asgD, deref_int, deref_tup, deref_lst, deref_str, deref_bl, deref_non, deref_dK, deref_dT, deref_scr, deref_fn, isObj, bin_add, bin_addS, bin_addT, bin_addL, bin_sub, bin_mul, bin_mulL, bin_mulT, bin_fdiv, bin_mod, bin_pow, cmp_eq, cmp_ne, cmp_lt, cmp_le, cmp_gt, cmp_ge, cmp_isB, cmp_isnotB, cmp_is, cmp_isnot, cmp_inn, cmp_notin, eq_int, eq_str, eq_bl, tru_non, tru_bl, tru_int, tru_tup, tru_lst, tru_dK, ix_tup, ix_lst, ix_dK, ix_dT, bi_lenT, bi_lenL, bi_lenS, bi_int, bi_intB, bi_tupT, bi_tupL, bi_lisT, bi_lisL, bi_repr, bi_all, bi_any, bi_sum, bi_max, bi_min, bi_abs, bi_gcd, in_lst, in_tup, in_dK, in_dT, get_dKi, get_dKs, get_dTt, put_dKi, put_dKs, put_dTt, put_lst, key_int, key_str, keys_nil, keys_cons, slc_tup, slc_lst, slc_scr, end_t, end_f, ty_app, ty_pop, ty_ext, ty_getK, ty_getT, ok_int, ok_str, ok_non, isNop, and_assoc, at_0, at_1, at_2, at_3]
      exact wr_fin2 rfl rfl rfl
  obtain ⟨d, h', e, rfl⟩ := go
  exact ⟨h', e⟩
end
end Lw
open PySem PySem.W PyProof.Rows in
set_option maxRecDepth 100000 in
set_option maxHeartbeats 0 in
theorem PySem.Challenge.cw_allendless_k59_whole_readers_holds : PySem.Challenge.rw_allendless_k59_whole_readers.Holds := by
  w_on; o_law; k_head; (case hw => w_witness2)
  k_fill
  refine Mi.walk (l := PySem.Challenge.rw_allendless_k59_whole_readers) (T := Lw.tab) (ds := Lw.defs) (k := 40) (i := 27) rfl rfl (fun w h Y => PySem.W.kIn_of Y) ?F (by decide) ⟨rfl, by decide, by decide⟩ rfl Lw.dts rfl Lw.law_true
  case F =>
    intro w h KX
    refine' Mi.facts KX (Mi.dk_cons (Mi.defK ?a0 ?l0 ?c0 ?k0) (Mi.dk_cons (Mi.defK ?a1 ?l1 ?c1 ?k1) (Mi.dk_cons (Mi.defK ?a2 ?l2 ?c2 ?k2) (Mi.dk_cons (Mi.defK ?a3 ?l3 ?c3 ?k3) (Mi.dk_cons (Mi.defK ?a4 ?l4 ?c4 ?k4) (Mi.dk_cons (Mi.defK ?a5 ?l5 ?c5 ?k5) (Mi.dk_cons (Mi.defK ?a6 ?l6 ?c6 ?k6) (Mi.dk_cons (Mi.defK ?a7 ?l7 ?c7 ?k7) (Mi.dk_cons (Mi.defK ?a8 ?l8 ?c8 ?k8) (Mi.dk_cons (Mi.defK ?a9 ?l9 ?c9 ?k9) (Mi.dk_cons (Mi.defK ?a10 ?l10 ?c10 ?k10) (Mi.dk_cons (Mi.defK ?a11 ?l11 ?c11 ?k11) (Mi.dk_cons (Mi.defK ?a12 ?l12 ?c12 ?k12) (Mi.dk_cons (Mi.defK ?a13 ?l13 ?c13 ?k13) (Mi.dk_cons (Mi.defK ?a14 ?l14 ?c14 ?k14) (Mi.dk_cons (Mi.defK ?a15 ?l15 ?c15 ?k15) (Mi.dk_cons (Mi.defK ?a16 ?l16 ?c16 ?k16) (Mi.dk_cons (Mi.defK ?a17 ?l17 ?c17 ?k17) (Mi.dk_cons (Mi.defK ?a18 ?l18 ?c18 ?k18) (Mi.dk_cons (Mi.defK ?a19 ?l19 ?c19 ?k19) (Mi.dk_cons (Mi.defK ?a20 ?l20 ?c20 ?k20) (Mi.dk_cons (Mi.defK ?a21 ?l21 ?c21 ?k21) (Mi.dk_cons (Mi.defK ?a22 ?l22 ?c22 ?k22) (Mi.dk_cons (Mi.defK ?a23 ?l23 ?c23 ?k23) (Mi.dk_cons (Mi.defK ?a24 ?l24 ?c24 ?k24) (Mi.dk_cons (Mi.defK ?a25 ?l25 ?c25 ?k25) (Mi.dk_cons (Mi.defK ?a26 ?l26 ?c26 ?k26) (Mi.dk_cons (Mi.defK ?a27 ?l27 ?c27 ?k27) (Mi.dk_nil))))))))))))))))))))))))))))) (Mi.bk_cons ?b0 (Mi.bk_cons ?b1 (Mi.bk_cons ?b2 (Mi.bk_cons ?b3 (Mi.bk_cons ?b4 (Mi.bk_cons ?b5 (Mi.bk_cons ?b6 (Mi.bk_cons ?b7 (Mi.bk_cons ?b8 (Mi.bk_cons ?b9 (Mi.bk_nil))))))))))) (Mi.ck_cons ?s0 (Mi.ck_cons ?s1 (Mi.ck_nil))) (fun z => Bool.noConfusion z)
    (case a0 => k_is)
    (case l0 => k_is)
    (case c0 => k_is)
    (case k0 => k_is)
    (case a1 => k_is)
    (case l1 => k_is)
    (case c1 => k_is)
    (case k1 => k_is)
    (case a2 => k_is)
    (case l2 => k_is)
    (case c2 => k_is)
    (case k2 => k_is)
    (case a3 => k_is)
    (case l3 => k_is)
    (case c3 => k_is)
    (case k3 => k_is)
    (case a4 => k_is)
    (case l4 => k_is)
    (case c4 => k_is)
    (case k4 => k_is)
    (case a5 => k_is)
    (case l5 => k_is)
    (case c5 => k_is)
    (case k5 => k_is)
    (case a6 => k_is)
    (case l6 => k_is)
    (case c6 => k_is)
    (case k6 => k_is)
    (case a7 => k_is)
    (case l7 => k_is)
    (case c7 => k_is)
    (case k7 => k_is)
    (case a8 => k_is)
    (case l8 => k_is)
    (case c8 => k_is)
    (case k8 => k_is)
    (case a9 => k_is)
    (case l9 => k_is)
    (case c9 => k_is)
    (case k9 => k_is)
    (case a10 => k_is)
    (case l10 => k_is)
    (case c10 => k_is)
    (case k10 => k_is)
    (case a11 => k_is)
    (case l11 => k_is)
    (case c11 => k_is)
    (case k11 => k_is)
    (case a12 => k_is)
    (case l12 => k_is)
    (case c12 => k_is)
    (case k12 => k_is)
    (case a13 => k_is)
    (case l13 => k_is)
    (case c13 => k_is)
    (case k13 => k_is)
    (case a14 => k_is)
    (case l14 => k_is)
    (case c14 => k_is)
    (case k14 => k_is)
    (case a15 => k_is)
    (case l15 => k_is)
    (case c15 => k_is)
    (case k15 => k_is)
    (case a16 => k_is)
    (case l16 => k_is)
    (case c16 => k_is)
    (case k16 => k_is)
    (case a17 => k_is)
    (case l17 => k_is)
    (case c17 => k_is)
    (case k17 => k_is)
    (case a18 => k_is)
    (case l18 => k_is)
    (case c18 => k_is)
    (case k18 => k_is)
    (case a19 => k_is)
    (case l19 => k_is)
    (case c19 => k_is)
    (case k19 => k_is)
    (case a20 => k_is)
    (case l20 => k_is)
    (case c20 => k_is)
    (case k20 => k_is)
    (case a21 => k_is)
    (case l21 => k_is)
    (case c21 => k_is)
    (case k21 => k_is)
    (case a22 => k_is)
    (case l22 => k_is)
    (case c22 => k_is)
    (case k22 => k_is)
    (case a23 => k_is)
    (case l23 => k_is)
    (case c23 => k_is)
    (case k23 => k_is)
    (case a24 => k_is)
    (case l24 => k_is)
    (case c24 => k_is)
    (case k24 => k_is)
    (case a25 => k_is)
    (case l25 => k_is)
    (case c25 => k_is)
    (case k25 => k_is)
    (case a26 => k_is)
    (case l26 => k_is)
    (case c26 => k_is)
    (case k26 => k_is)
    (case a27 => k_is)
    (case l27 => k_is)
    (case c27 => k_is)
    (case k27 => k_is)
    (case b0 => k_is)
    (case b1 => k_is)
    (case b2 => k_is)
    (case b3 => k_is)
    (case b4 => k_is)
    (case b5 => k_is)
    (case b6 => k_is)
    (case b7 => k_is)
    (case b8 => k_is)
    (case b9 => k_is)
    (case s0 => k_is)
    (case s1 => k_is)
