import PyProof.Rows.All
import Wide.All
import OpenK.AllK
import Wide.FinOn
import HandS.ForMost
import HandS.Wide
import HandS.Gcd
import HandS.Flow
import HandS.Zip
import HandS.Deep
import HandS.Style
import HandS.TupAny
import HandS.TupLe
import HandS.IsInst
import HandS.Conv
import HandS.More
import HandS.RevRange
import HandS.NoneIn
import KE.SortData
import PyProof.Rows.EqDataRows
import HandS.Defaults
import HandS.Head0
import HandS.Head1
import HandS.Head2
import HandS.HeadEnd
import HandS.HeadHook1
import HandS.HeadHook2
import KE.GoesEnumKw
import KE.KStateDown
import Lean
import HandS.Base
import HandS.Call
import HandS.Ends
import HandS.Words
import HandS.WordsExc
import HandS.Head3
import HandS.HeadHook3
import HandS.HeadHook4
import PySem.Challenge.RW_trusswork_k40_whole_cables
set_option Elab.async false
set_option linter.all false
set_option maxRecDepth 100000
/-! DLA: the pure half of the D-layer: data, slots, the semantics of Python's constructs over data as predicate transformers. -/
namespace DL
open PySem

abbrev D := PyData
/-- what a name of a def holds -/
inductive Slot where
  /-- nothing that is known -/
  | un
  /-- a datum that is never changed again -/
  | d (x : D)
  /-- a list of the def's own, that it may still change -/
  | own (xs : List D)
  /-- a list that is read only, as it stands -/
  | bor (xs : List D)
  /-- the drawing pool of the law -/
  | pool
abbrev Env := List Slot
abbrev FE := Env → (D → Prop) → Prop
abbrev FT := Env → (Bool → Prop) → Prop
abbrev FN := Env → (List D → Prop) → Prop
abbrev FA := Env → (List Slot → Prop) → Prop
abbrev FDs := Env → (List D → Prop) → Prop
abbrev FG := D → Env → (Env → Prop) → Prop
abbrev W := List Slot → (D → Prop) → Prop
structure DEnds where
  nx : Env → Prop
  rt : D → Prop
  bk : Env → Prop
  ct : Env → Prop
abbrev FS := DEnds → Env → Prop

def need {α : Type} (o : Option α) (Q : α → Prop) : Prop := match o with | some x => Q x | none => False
theorem need_get {α : Type} {o : Option α} {Q : α → Prop} (h : need o Q) : ∃ x, o = some x ∧ Q x := by
  cases o with
  | none => exact h.elim
  | some x => exact ⟨x, rfl, h⟩
theorem need_of {α : Type} {o : Option α} {Q : α → Prop} {x : α} (e : o = some x) (h : Q x) : need o Q := by rw [e]; exact h
/-! ### expressions -/
def fVar (i : Nat) : FE := fun env Q => match env[i]? with | some (.d x) => Q x | _ => False
def fVarT (i : Nat) : FE := fun env Q => match env[i]? with | some (.d x) => Q x | some (.own xs) => Q (.list xs) | some (.bor xs) => Q (.list xs) | _ => False
def fC (x : D) : FE := fun _ Q => Q x
def fBin (g : D → D → (D → Prop) → Prop) (fa fb : FE) : FE := fun env Q => fa env fun x => fb env fun y => g x y Q
def fUn (g : D → (D → Prop) → Prop) (fa : FE) : FE := fun env Q => fa env fun x => g x Q
def fIte (ft : FT) (fa fb : FE) : FE := fun env Q => ft env fun b => if b = true then fa env Q else fb env Q

def gAdd : D → D → (D → Prop) → Prop
  | .int i, .int j, Q => Q (.int (i + j))
  | .str i, .str j, Q => i.length + j.length ≤ sizeLine ∧ Q (.str (i ++ j))
  | .list xs, .list ys, Q => xs.length + ys.length ≤ sizeLine ∧ Q (.list (xs ++ ys))
  | .tuple xs, .tuple ys, Q => xs ≠ [] ∧ ys ≠ [] ∧ xs.length + ys.length ≤ sizeLine ∧ Q (.tuple (xs ++ ys))
  | _, _, _ => False
def gSub : D → D → (D → Prop) → Prop
  | .int i, .int j, Q => Q (.int (i - j))
  | _, _, _ => False
def gMul : D → D → (D → Prop) → Prop
  | .int i, .int j, Q => (i.natAbs.log2 + j.natAbs.log2 < 1000000 ∨ i.natAbs < 2 ^ 64 ∨ j.natAbs < 2 ^ 64) ∧ Q (.int (i * j))
  | .list xs, .int k, Q => k < 2 ^ 62 ∧ -(2 ^ 62) < k ∧ xs.length * k.toNat ≤ sizeLine ∧ Q (.list (List.replicate k.toNat xs).flatten)
  | _, _, _ => False
def gMod : D → D → (D → Prop) → Prop
  | .int i, .int j, Q => 0 < j ∧ Q (.int (i % j))
  | _, _, _ => False
def gDiv : D → D → (D → Prop) → Prop
  | .int i, .int j, Q => 0 < j ∧ j.natAbs.log2 < 9000 ∧ Q (.int (i / j))
  | _, _, _ => False
def gPow : D → D → (D → Prop) → Prop
  | .int i, .int j, Q => 0 ≤ j ∧ j ≤ 1000000 ∧ i.natAbs < 2 ^ 64 ∧ Q (.int (i ^ j.toNat))
  | _, _, _ => False
def gNeg : D → (D → Prop) → Prop
  | .int i, Q => Q (.int (-i))
  | _, _ => False
/-- == of data -/
def eqD (x y : D) : Bool := PyData.eqv x y
def okD (x : D) : Bool := SeqAt.shaped x
def gEq (x y : D) (Q : D → Prop) : Prop := okD x = true ∧ okD y = true ∧ Q (.bool (eqD x y))
def gNe (x y : D) (Q : D → Prop) : Prop := okD x = true ∧ okD y = true ∧ Q (.bool (!eqD x y))
/-- a < b: two ints, or alike data -/
def ltOk (x y : D) : Prop := PySem.W.alike x y = true ∧ x ≠ .none ∧ x.depth ≤ 64
def gLt : D → D → (D → Prop) → Prop
  | .int i, .int j, Q => Q (.bool (decide (i < j)))
  | x, y, Q => ltOk x y ∧ Q (.bool (PySem.W.dataLt x y))
def gLe : D → D → (D → Prop) → Prop
  | .int i, .int j, Q => Q (.bool (decide (i ≤ j)))
  | _, _, _ => False
def gGt : D → D → (D → Prop) → Prop
  | .int i, .int j, Q => Q (.bool (decide (j < i)))
  | _, _, _ => False
def gGe : D → D → (D → Prop) → Prop
  | .int i, .int j, Q => Q (.bool (decide (j ≤ i)))
  | _, _, _ => False
/-- x in xs -/
def inD (x : D) (xs : List D) : Bool := xs.any fun y => eqD y x
def gIn : D → D → (D → Prop) → Prop
  | x, .list xs, Q => okD x = true ∧ okD (.list xs) = true ∧ Q (.bool (inD x xs))
  | _, _, _ => False
def gNotIn : D → D → (D → Prop) → Prop
  | x, .list xs, Q => okD x = true ∧ okD (.list xs) = true ∧ Q (.bool (!inD x xs))
  | _, _, _ => False
def isBool : D → Bool → Bool
  | .bool a, b => a == b
  | _, _ => false
def isNone : D → Bool
  | .none => true
  | _ => false
/-- xs[i] -/
def gIx : D → D → (D → Prop) → Prop
  | .list xs, .int i, Q => need (L2.atI xs i) Q
  | .tuple xs, .int i, Q => need (L2.atI xs i) Q
  | .str s, .int i, Q => s.length ≤ sizeLine ∧ need (L2.atI s.cps.toList i) fun c => Q (.str ⟨#[c]⟩)
  | _, _, _ => False
/-- an optional part of a slice -/
abbrev FO := Env → (Option Int → Prop) → Prop
def fNoPart : FO := fun _ Q => Q none
def fPart (f : FE) : FO := fun env Q => f env fun x => match x with | .int i => Q (some i) | _ => False
def cutD (xs : List D) (lo hi : Option Int) : List D := (xs.drop (HT.sIx xs.length 0 lo)).take (HT.sIx xs.length xs.length hi - HT.sIx xs.length 0 lo)
def fSl (fe : FE) (fl fh : FO) : FE := fun env Q => fe env fun x => fl env fun l => fh env fun h => match x with | .list xs => Q (.list (cutD xs l h)) | .tuple xs => Q (.tuple (cutD xs l h)) | _ => False
/-- xs[::-1] -/
def fRev (fe : FE) : FE := fun env Q => fe env fun x => match x with | .list xs => Q (.list xs.reverse) | _ => False

/-! ### tests -/
def fB (f : FE) : FT := fun env Q => f env fun x => match x with | .bool b => Q b | _ => False
/-- the truth of a value -/
def truD : D → Option Bool
  | .none => some false
  | .bool b => some b
  | .int i => some (i != 0)
  | .list xs => some (!xs.isEmpty)
  | .tuple xs => some (!xs.isEmpty)
  | _ => none
def fTru (f : FE) : FT := fun env Q => f env fun x => need (truD x) Q
def fAnd (t u : FT) : FT := fun env Q => t env fun b => if b = true then u env Q else Q false
def fOr (t u : FT) : FT := fun env Q => t env fun b => if b = true then Q true else u env Q
def fNot (t : FT) : FT := fun env Q => t env fun b => Q (!b)
/-- a test as a value (bools) -/
def fOfT (t : FT) : FE := fun env Q => t env fun b => Q (.bool b)

/-! ### displays, calls -/
def fsNil : FDs := fun _ Q => Q []
def fsCons (f : FE) (r : FDs) : FDs := fun env Q => f env fun x => r env fun xs => Q (x :: xs)
def fTup (f : FDs) : FE := fun env Q => f env fun xs => Q (.tuple xs)
def nLst (f : FDs) : FN := fun env Q => f env Q
def fOfN (f : FN) : FE := fun env Q => f env fun xs => Q (.list xs)
/-- a fresh list by an operation whose value is a list -/
def nOf (f : FE) : FN := fun env Q => f env fun x => match x with | .list xs => Q xs | _ => False
def faNil : FA := fun _ Q => Q []
def faD (f : FE) (r : FA) : FA := fun env Q => f env fun x => r env fun xs => Q (.d x :: xs)
def faBor (f : FE) (r : FA) : FA := fun env Q => f env fun x => match x with | .list ys => r env fun xs => Q (.bor ys :: xs) | _ => False
def faPool (i : Nat) (r : FA) : FA := fun env Q => match env[i]? with | some .pool => r env fun xs => Q (.pool :: xs) | _ => False
def fCall (w : W) (fa : FA) : FE := fun env Q => fa env fun xs => w xs Q
/-- a call of a built-in, by its values -/
def fBlt (g : List D → (D → Prop) → Prop) (f : FDs) : FE := fun env Q => f env fun xs => g xs Q

/-! ### targets -/
def gNm (i : Nat) : FG := fun x env Q => Q (env.set i (.d x))
abbrev FGs := List D → Env → (Env → Prop) → Prop
def gsNil : FGs := fun xs env Q => xs = [] ∧ Q env
def gsCons (g : FG) (r : FGs) : FGs := fun xs env Q => match xs with | [] => False | x :: ys => g x env fun env' => r ys env' Q
def gTp (g : FGs) : FG := fun x env Q => match x with | .tuple xs => g xs env Q | .list xs => g xs env Q | _ => False

def mutS (i : Nat) (env : Env) (k : List D → Prop) : Prop := match env[i]? with | some (.own xs) => k xs | _ => False
/-- xs[k] = .. -/
def gItem (i : Nat) (fi : FE) : FG := fun x env Q => mutS i env fun xs => fi env fun k => match k with
  | .int n => need (L2.ixN xs.length n) fun j => Q (env.set i (.own (xs.set j x)))
  | _ => False
theorem mutS_get {i : Nat} {env : Env} {k : List D → Prop} (h : mutS i env k) : ∃ xs, env[i]? = some (.own xs) ∧ k xs := by
  unfold mutS at h
  cases e : env[i]? with
  | none => rw [e] at h; exact h.elim
  | some s =>
    rw [e] at h
    cases s <;> first | exact h.elim | exact ⟨_, rfl, h⟩
/-! ### iterables -/
abbrev FI := Env → (List D → Prop) → Prop
def iSeq (f : FE) : FI := fun env Q => f env fun x => match x with | .list xs => Q xs | .tuple xs => Q xs | _ => False
def rngD (lo hi : Int) : List D := (List.range (hi - lo).toNat).map fun (k : Nat) => .int (lo + (k : Int))
def iRng (f : FDs) : FI := fun env Q => f env fun xs => match xs with
  | [.int j] => -(2 ^ 62) ≤ j ∧ j < 2 ^ 62 ∧ Q (rngD 0 j)
  | [.int i, .int j] => -(2 ^ 62) ≤ i ∧ i < 2 ^ 62 ∧ -(2 ^ 62) ≤ j ∧ j < 2 ^ 62 ∧ Q (rngD i j)
  | _ => False
def seqOf : D → Option (List D)
  | .list xs => some xs
  | .tuple xs => some xs
  | _ => none
def enumD : Nat → List D → List D
  | _, [] => []
  | k, x :: xs => .tuple [.int k, x] :: enumD (k + 1) xs
def iEnum (f : FE) : FI := fun env Q => f env fun x => match x with | .list xs => Q (enumD 0 xs) | _ => False
def zipD (xs ys : List D) : List D := (xs.zip ys).map fun p => .tuple [p.1, p.2]
/-- zip, strict (of one length) or not -/
def iZip (strict : Bool) (fa fb : FE) : FI := fun env Q => fa env fun x => fb env fun y => match x, y with
  | .list xs, .list ys => (strict = true → xs.length = ys.length) ∧ Q (zipD xs ys)
  | _, _ => False

/-! ### comprehensions -/
def wipeE (env : Env) : List Nat → Env
  | [] => env
  | i :: is => (wipeE env is).set i .un
def compL (g : FG) (ft : FT) (fe : FE) (env : Env) : List D → List D → (List D → Prop) → Prop
  | [], acc, Q => Q acc
  | x :: xs, acc, Q => g x env fun env1 => ft env1 fun b => if b = true then fe env1 fun y => acc.length < sizeLine ∧ compL g ft fe env xs (acc ++ [y]) Q else compL g ft fe env xs acc Q
def nLc (own : List Nat) (fi : FI) (g : FG) (ft : FT) (fe : FE) : FN := fun env Q => fi env fun xs => compL g ft fe (wipeE env own) xs [] Q
def fYes : FT := fun _ Q => Q true

/-! ### statements -/
def sNext : FS := fun E env => E.nx env
def sSeq (f g : FS) : FS := fun E env => f { E with nx := g E } env
def sRet (f : FE) : FS := fun E env => f env E.rt
def sRetN : FS := fun E _ => E.rt .none
def sBrk : FS := fun E env => E.bk env
def sCnt : FS := fun E env => E.ct env
def sIf (t : FT) (f g : FS) : FS := fun E env => t env fun b => if b = true then f E env else g E env
def sAsg (f : FE) (g : FG) : FS := fun E env => f env fun x => g x env E.nx
def sDrop (f : FE) : FS := fun E env => f env fun _ => E.nx env
/-- name = a new list that is changed later -/
def sOwn (i : Nat) (f : FN) : FS := fun E env => f env fun xs => E.nx (env.set i (.own xs))
def frzE (i : Nat) (env : Env) : Env := match env[i]? with | some (.own xs) => env.set i (.d (.list xs)) | _ => env
/-- the list at a name is changed no more -/
def sFrz (i : Nat) (f : FS) : FS := fun E env => f E (frzE i env)
def sApp (i : Nat) (f : FE) : FS := fun E env => mutS i env fun xs => f env fun x => xs.length < sizeLine ∧ E.nx (env.set i (.own (xs ++ [x])))
def sExt (i : Nat) (f : FE) : FS := fun E env => mutS i env fun xs => f env fun x => match x with | .list ys => xs.length + ys.length ≤ sizeLine ∧ E.nx (env.set i (.own (xs ++ ys))) | _ => False
def sIns (i : Nat) (fi fe : FE) : FS := fun E env => mutS i env fun xs => fi env fun k => fe env fun x => match k with | .int n => 0 ≤ n ∧ n < 2 ^ 62 ∧ xs.length < sizeLine ∧ E.nx (env.set i (.own (xs.take n.toNat ++ [x] ++ xs.drop n.toNat))) | _ => False
/-- name = xs.pop(k) -/
def sPopAt (i : Nat) (fi : FE) (g : FG) : FS := fun E env => mutS i env fun xs => fi env fun k => match k with
  | .int n => 0 ≤ n ∧ n < 2 ^ 62 ∧ need xs[n.toNat]? fun x => g x (env.set i (.own (xs.eraseIdx n.toNat))) E.nx
  | _ => False
/-- a, b = x, y, plain names -/
def sPar (i j : Nat) (fa fb : FE) : FS := fun E env => fa env fun x => fb env fun y => E.nx ((env.set i (.d x)).set j (.d y))
def loopL (g : FG) (fb : FS) (E : DEnds) : List D → Env → Prop
  | [], env => E.nx env
  | x :: xs, env => g x env fun env1 => fb { nx := loopL g fb E xs, rt := E.rt, bk := E.nx, ct := loopL g fb E xs } env1
def sFor (fi : FI) (g : FG) (fb : FS) : FS := fun E env => fi env fun xs => loopL g fb E xs env
def sWhile (t : FT) (fb : FS) : FS := fun E env => ∃ I : Nat → Env → Prop, (∃ m, I m env) ∧ ∀ m env, I m env → t env fun b =>
  if b = true then fb { nx := fun e => ∃ m', m' < m ∧ I m' e, rt := E.rt, bk := E.nx, ct := fun e => ∃ m', m' < m ∧ I m' e } env else E.nx env
/-- a def: n names, its body -/
def runD (n : Nat) (f : FS) : W := fun args Q => f { nx := fun _ => Q .none, rt := Q, bk := fun _ => False, ct := fun _ => False } (args ++ List.replicate (n - args.length) .un)
end DL

set_option Elab.async false
set_option linter.all false
set_option maxRecDepth 100000
set_option maxHeartbeats 1000000
/-! DLB: the link of the D-layer to HandS: what a slot's datum means in the heap, the judgements, the rules. -/
namespace DL
open PySem PySem.Spec PyProof.Rows L2

/-! ### data in the heap -/
mutual
inductive Rp (K : PySem.W.Frag) (G : Hp) : V → D → Prop
  | non : Rp K G .non .none
  | bl (b : Bool) : Rp K G (.bl b) (.bool b)
  | int (i : Int) : Rp K G (.int i) (.int i)
  | str (x : Str) : Rp K G (.str x) (.str x)
  | lst {a : Addr} {xs : List V} {ds : List D} : G a = some (.lst xs) → RpL K G xs ds → Rp K G (.ref a) (.list ds)
  | tup {a : Addr} {xs : List V} {ds : List D} : SqT K G a xs → RpL K G xs ds → Rp K G (.ref a) (.tuple ds)
inductive RpL (K : PySem.W.Frag) (G : Hp) : List V → List D → Prop
  | nil : RpL K G [] []
  | cons {v : V} {vs : List V} {d : D} {ds : List D} : Rp K G v d → RpL K G vs ds → RpL K G (v :: vs) (d :: ds)
end

def Sub (G G' : Hp) : Prop := ∀ a o, G a = some o → G' a = some o
theorem Sub.refl (G : Hp) : Sub G G := fun _ _ h => h
theorem Sub.trans {G G' G'' : Hp} (a : Sub G G') (b : Sub G' G'') : Sub G G'' := fun x o h => b x o (a x o h)
theorem Sub.rd {G G' : Hp} {a : Addr} {u : HO} (s : Sub G G') (h : Rd G a u) : Rd G' a u := by
  rcases h with h | ⟨o, h⟩
  · exact .inl (s a _ h)
  · exact .inr ⟨o, s a _ h⟩
theorem Sub.sl {K : PySem.W.Frag} {G G' : Hp} {a : Addr} {xs : List V} (s : Sub G G') (h : SqL K G a xs) : SqL K G' a xs := by
  rcases h with h | h
  · exact .inl (s.rd h)
  · exact .inr h
theorem Sub.st {K : PySem.W.Frag} {G G' : Hp} {a : Addr} {xs : List V} (s : Sub G G') (h : SqT K G a xs) : SqT K G' a xs := by
  rcases h with h | h
  · exact .inl (s.rd h)
  · exact .inr h
mutual
theorem Rp.mono {K : PySem.W.Frag} {G G' : Hp} (s : Sub G G') : ∀ {v : V} {d : D}, Rp K G v d → Rp K G' v d
  | _, _, .non => .non
  | _, _, .bl b => .bl b
  | _, _, .int i => .int i
  | _, _, .str x => .str x
  | _, _, .lst h t => .lst (s _ _ h) (RpL.mono s t)
  | _, _, .tup h t => .tup (s.st h) (RpL.mono s t)
theorem RpL.mono {K : PySem.W.Frag} {G G' : Hp} (s : Sub G G') : ∀ {v : List V} {d : List D}, RpL K G v d → RpL K G' v d
  | _, _, .nil => .nil
  | _, _, .cons h t => .cons (Rp.mono s h) (RpL.mono s t)
end
mutual
theorem Rp.dp {K : PySem.W.Frag} {G : Hp} : ∀ {v : V} {d : D}, Rp K G v d → Dp K G v d
  | _, _, .non => .non
  | _, _, .bl b => .bl b
  | _, _, .int i => .int i
  | _, _, .str x => .str x
  | _, _, .lst h t => .lst (.of h) (RpL.dp t)
  | _, _, .tup h t => .tup h (RpL.dp t)
theorem RpL.dp {K : PySem.W.Frag} {G : Hp} : ∀ {v : List V} {d : List D}, RpL K G v d → DpAll K G v d
  | _, _, .nil => .nil
  | _, _, .cons h t => .cons (Rp.dp h) (RpL.dp t)
end
theorem RpL.length {K : PySem.W.Frag} {G : Hp} : ∀ {v : List V} {d : List D}, RpL K G v d → v.length = d.length
  | _, _, .nil => rfl
  | _, _, .cons _ t => by rw [List.length_cons, List.length_cons, RpL.length t]
theorem RpL.get {K : PySem.W.Frag} {G : Hp} : ∀ {v : List V} {d : List D} {i : Nat} {x : D}, RpL K G v d → d[i]? = some x → ∃ u, v[i]? = some u ∧ Rp K G u x
  | _, _, _, _, .nil, e => by simp at e
  | _, _, 0, _, .cons h _, e => by simp at e; subst e; exact ⟨_, rfl, h⟩
  | _, _, i + 1, x, .cons _ t, e => by
    obtain ⟨u, h1, h2⟩ := RpL.get (i := i) (x := x) t (by simpa using e)
    exact ⟨u, by simpa using h1, h2⟩
theorem RpL.append {K : PySem.W.Frag} {G : Hp} : ∀ {v w : List V} {d e : List D}, RpL K G v d → RpL K G w e → RpL K G (v ++ w) (d ++ e)
  | _, _, _, _, .nil, s => s
  | _, _, _, _, .cons r t, s => .cons r (RpL.append t s)
theorem RpL.take {K : PySem.W.Frag} {G : Hp} : ∀ {v : List V} {d : List D} (n : Nat), RpL K G v d → RpL K G (v.take n) (d.take n)
  | _, _, 0, _ => .nil
  | _, _, _ + 1, .nil => .nil
  | _, _, n + 1, .cons r t => .cons r (RpL.take n t)
theorem RpL.drop {K : PySem.W.Frag} {G : Hp} : ∀ {v : List V} {d : List D} (n : Nat), RpL K G v d → RpL K G (v.drop n) (d.drop n)
  | _, _, 0, r => r
  | _, _, _ + 1, .nil => .nil
  | _, _, n + 1, .cons _ t => RpL.drop n t
theorem RpL.set {K : PySem.W.Frag} {G : Hp} {u : V} {x : D} (r : Rp K G u x) : ∀ {v : List V} {d : List D} (i : Nat), RpL K G v d → RpL K G (v.set i u) (d.set i x)
  | _, _, _, .nil => .nil
  | _, _, 0, .cons _ t => .cons r t
  | _, _, i + 1, .cons q t => .cons q (RpL.set r i t)
theorem RpL.reverse {K : PySem.W.Frag} {G : Hp} {v : List V} {d : List D} (h : RpL K G v d) : RpL K G v.reverse d.reverse := by
  induction v generalizing d with
  | nil => cases h; exact .nil
  | cons a r ih =>
    cases h with
    | cons h t =>
      rw [List.reverse_cons, List.reverse_cons]
      exact (ih t).append (.cons h .nil)
theorem RpL.rep {K : PySem.W.Frag} {G : Hp} {v : List V} {d : List D} (h : RpL K G v d) : ∀ k : Nat, RpL K G (List.replicate k v).flatten (List.replicate k d).flatten
  | 0 => .nil
  | k + 1 => by
    rw [List.replicate_succ, List.replicate_succ, List.flatten_cons, List.flatten_cons]
    exact h.append (RpL.rep h k)
theorem RpL.eraseIdx {K : PySem.W.Frag} {G : Hp} : ∀ {v : List V} {d : List D} (i : Nat), RpL K G v d → RpL K G (v.eraseIdx i) (d.eraseIdx i)
  | _, _, _, .nil => .nil
  | _, _, 0, .cons _ t => t
  | _, _, i + 1, .cons q t => .cons q (RpL.eraseIdx i t)

/-! ### shared and own -/
abbrev Zn := Addr → Option Nat
def Sh (z : Zn) (H : Hp) : Hp := fun a => if z a = none then H a else none
theorem Sh.sub (z : Zn) (H : Hp) : Sub (Sh z H) H := fun a o h => by
  unfold Sh at h
  split at h
  · exact h
  · cases h
theorem Sh.mono {z : Zn} {H H' : Hp} (h : ∀ a o, z a = none → H a = some o → H' a = some o) : Sub (Sh z H) (Sh z H') := fun a o e => by
  unfold Sh at e ⊢
  split at e
  · rename_i hz
    rw [if_pos hz]
    exact h a o hz e
  · cases e
theorem Sh.zone {z z' : Zn} {H : Hp} (h : ∀ a, H a ≠ none → z a = none → z' a = none) : Sub (Sh z H) (Sh z' H) := fun a o e => by
  unfold Sh at e ⊢
  split at e
  · rename_i hz
    rw [if_pos (h a (by rw [e]; exact fun q => nomatch q) hz)]
    exact e
  · cases e
/-- the law's pool: where it stands, the script's place, the script -/
structure PoolAt where
  pa : Addr
  sa : Addr
  ns : List Int
/-- the script, wherever it stands, apart from the pool -/
def PSc (K : PySem.W.Frag) (p : PoolAt) (H : Hp) : Prop := (p.sa ≠ p.pa ∧ Rd H p.sa (.lst (p.ns.map V.int))) ∨
  ∃ (o : Obj) (its : Array Value) (n : Nat), K.lookup p.sa = some o ∧ o.cls = .type "list" ∧ o.dict = none ∧ o.data = .seq its n ∧ its.size ≤ sizeLine ∧ Vals (p.ns.map V.int) its.toList
theorem PSc.sl {K : PySem.W.Frag} {p : PoolAt} {H : Hp} (h : PSc K p H) : SqL K H p.sa (p.ns.map V.int) := by
  rcases h with ⟨_, h⟩ | h
  · exact .inl h
  · exact .inr h
theorem PSc.grow {K : PySem.W.Frag} {p : PoolAt} {H H' : Hp} (h : PSc K p H) (k : Sub H H') : PSc K p H' := by
  rcases h with ⟨n, h⟩ | h
  · exact .inl ⟨n, k.rd h⟩
  · exact .inr h
theorem PSc.upd {K : PySem.W.Frag} {p : PoolAt} {H : Hp} {o : HO} (h : PSc K p H) : PSc K p (upd H p.pa o) := by
  rcases h with ⟨n, h | ⟨u, h⟩⟩ | h
  · exact .inl ⟨n, .inl (by rw [upd_ne n]; exact h)⟩
  · exact .inl ⟨n, .inr ⟨u, by rw [upd_ne n]; exact h⟩⟩
  · exact .inr h
def PoolOk (K : PySem.W.Frag) (p : PoolAt) (H : Hp) : Prop := True ∧ PSc K p H ∧ ∃ a b c : Int, H p.pa = some (.lst [.ref p.sa, .int a, .int b, .int c])
/-- where a def's run began -/
structure Bs where
  H0 : Hp
  z0 : Zn
  po : Option PoolAt
def Bs.isP (B : Bs) (a : Addr) : Prop := ∃ p, B.po = some p ∧ a = p.pa
/-- the heap has grown: all that was tracked stands, but the pool may have turned -/
structure Gr (K : PySem.W.Frag) (B : Bs) (H H' : Hp) : Prop where
  keep : ∀ a o, ¬ B.isP a → H a = some o → H' a = some o
  pool : ∀ p, B.po = some p → PoolOk K p H → PoolOk K p H'
theorem Gr.refl {K : PySem.W.Frag} {B : Bs} (H : Hp) : Gr K B H H := ⟨fun _ _ _ h => h, fun _ _ h => h⟩
theorem Gr.trans {K : PySem.W.Frag} {B : Bs} {H H1 H2 : Hp} (a : Gr K B H H1) (b : Gr K B H1 H2) : Gr K B H H2 :=
  ⟨fun x o n h => b.keep x o n (a.keep x o n h), fun p e h => b.pool p e (a.pool p e h)⟩
theorem PoolOk.grow {K : PySem.W.Frag} {p : PoolAt} {H H' : Hp} (h : PoolOk K p H) (k : Sub H H') : PoolOk K p H' := by
  obtain ⟨n, s, a, b, c, e⟩ := h
  exact ⟨n, s.grow k, a, b, c, k _ _ e⟩
theorem Gr.of_sub {K : PySem.W.Frag} {B : Bs} {H H' : Hp} (k : Sub H H') : Gr K B H H' := ⟨fun a o _ h => k a o h, fun _ _ h => h.grow k⟩
theorem sub_upd {H : Hp} {p : Addr} {o : HO} (h : H p = none) : Sub H (upd H p o) := fun a u e => by
  rw [upd_ne (ne_of_none e h)]
  exact e
theorem Gr.new {K : PySem.W.Frag} {B : Bs} {H : Hp} {p : Addr} {o : HO} (h : H p = none) : Gr K B H (upd H p o) := .of_sub (sub_upd h)

def SlotOk (K : PySem.W.Frag) (B : Bs) (z : Zn) (H : Hp) (i : Nat) : Slot → Option V → Prop
  | .un, _ => True
  | .d x, o => ∃ v, o = some v ∧ Rp K (Sh z H) v x
  | .own xs, o => ∃ p vs, o = some (.ref p) ∧ z p = some (i + 1) ∧ H p = some (.lst vs) ∧ RpL K (Sh z H) vs xs
  | .bor xs, o => ∃ a vs, o = some (.ref a) ∧ (∀ j, z a ≠ some (j + 1)) ∧ ¬ B.isP a ∧ H a = some (.lst vs) ∧ RpL K (Sh z H) vs xs
  | .pool, o => ∃ p, B.po = some p ∧ o = some (.ref p.pa)
structure Sim (K : PySem.W.Frag) (B : Bs) (env : Env) (z : Zn) (σ : L2.St) (H : Hp) : Prop where
  gr : Gr K B B.H0 H
  hot : ∀ a, B.z0 a ≠ none → z a = some 0
  own : ∀ a, z a ≠ none → B.z0 a ≠ none ∨ B.H0 a = none
  live : ∀ a, z a ≠ none → H a ≠ none
  live0 : ∀ a, B.z0 a ≠ none → B.H0 a ≠ none
  pz : ∀ a, B.isP a → B.z0 a ≠ none
  pk : ∀ p, B.po = some p → PoolOk K p H
  pk0 : ∀ p, B.po = some p → PoolOk K p B.H0
  len : env.length ≤ σ.length
  sl : ∀ i s, env[i]? = some s → SlotOk K B z H i s (σ[i]?.join)

section
variable {K : PySem.W.Frag} {B : Bs} {env : Env} {z : Zn} {σ : L2.St} {H H' : Hp}
theorem sh_gr (hp : ∀ a, B.isP a → z a ≠ none) (g : Gr K B H H') : Sub (Sh z H) (Sh z H') := Sh.mono fun a o e h => g.keep a o (fun q => hp a q e) h
theorem Sim.pool (S : Sim K B env z σ H) : ∀ a, B.isP a → z a ≠ none := fun a h e => by
  have := S.hot a (S.pz a h)
  rw [e] at this
  cases this
theorem Sim.grow (S : Sim K B env z σ H) (g : Gr K B H H') : Sim K B env z σ H' where
  gr := S.gr.trans g
  hot := S.hot
  own := S.own
  live := fun a h => by
    by_cases hp : B.isP a
    · obtain ⟨p, e, rfl⟩ := hp
      obtain ⟨_, _, x, y, w, q⟩ := g.pool p e (S.pk p e)
      rw [q]
      exact fun q => nomatch q
    · cases q : H a with
      | none => exact absurd q (S.live a h)
      | some o => rw [g.keep a o hp q]; exact fun q => nomatch q
  live0 := S.live0
  pz := S.pz
  pk := fun p e => g.pool p e (S.pk p e)
  pk0 := S.pk0
  len := S.len
  sl := fun i s e => by
    have q := S.sl i s e
    have m := sh_gr S.pool g
    cases s with
    | un => trivial
    | d x =>
      obtain ⟨v, h1, h2⟩ := q
      exact ⟨v, h1, h2.mono m⟩
    | own xs =>
      obtain ⟨p, vs, h1, h2, h3, h4⟩ := q
      refine ⟨p, vs, h1, h2, g.keep p _ (fun hp => ?_) h3, h4.mono m⟩
      have := S.hot p (S.pz p hp)
      rw [h2] at this
      cases this
    | bor xs =>
      obtain ⟨p, vs, h1, h2, h3, h4, h5⟩ := q
      exact ⟨p, vs, h1, h2, h3, g.keep p _ h3 h4, h5.mono m⟩
    | pool => exact q

/-- a datum that may be a list of the def's own, as it stands now -/
def TRp (K : PySem.W.Frag) (B : Bs) (z : Zn) (H : Hp) (v : V) (x : D) : Prop :=
  Rp K (Sh z H) v x ∨ ∃ a vs ds, x = .list ds ∧ v = .ref a ∧ H a = some (.lst vs) ∧ ¬ B.isP a ∧ RpL K (Sh z H) vs ds
theorem TRp.grow {v : V} {x : D} (hp : ∀ a, B.isP a → z a ≠ none) (g : Gr K B H H') (h : TRp K B z H v x) : TRp K B z H' v x := by
  rcases h with h | ⟨a, vs, ds, h1, h2, h3, h4, h5⟩
  · exact .inl (h.mono (sh_gr hp g))
  · exact .inr ⟨a, vs, ds, h1, h2, g.keep a _ h4 h3, h4, h5.mono (sh_gr hp g)⟩
theorem TRp.dp {v : V} {x : D} (h : TRp K B z H v x) : Dp K H v x := by
  rcases h with h | ⟨a, vs, ds, rfl, rfl, h3, _, h5⟩
  · exact (h.mono (Sh.sub z H)).dp
  · exact .lst (.of h3) (h5.mono (Sh.sub z H)).dp
theorem TRp.list {v : V} {ds : List D} (h : TRp K B z H v (.list ds)) : ∃ a vs, v = .ref a ∧ H a = some (.lst vs) ∧ RpL K (Sh z H) vs ds := by
  rcases h with h | ⟨a, vs, es, e, h2, h3, _, h5⟩
  · cases h with
    | lst h t => exact ⟨_, _, rfl, Sh.sub z H _ _ h, t⟩
  · cases e
    exact ⟨a, vs, h2, h3, h5⟩
theorem TRp.tuple {v : V} {ds : List D} (h : TRp K B z H v (.tuple ds)) : ∃ a vs, v = .ref a ∧ SqT K (Sh z H) a vs ∧ RpL K (Sh z H) vs ds := by
  rcases h with h | ⟨a, vs, es, e, _⟩
  · cases h with
    | tup h t => exact ⟨_, _, rfl, h, t⟩
  · cases e
theorem TRp.int {v : V} {i : Int} (h : TRp K B z H v (.int i)) : v = .int i := by
  rcases h with h | ⟨a, vs, es, e, _⟩
  · cases h; rfl
  · cases e
theorem TRp.bool {v : V} {i : Bool} (h : TRp K B z H v (.bool i)) : v = .bl i := by
  rcases h with h | ⟨a, vs, es, e, _⟩
  · cases h; rfl
  · cases e
theorem TRp.str {v : V} {i : Str} (h : TRp K B z H v (.str i)) : v = .str i := by
  rcases h with h | ⟨a, vs, es, e, _⟩
  · cases h; rfl
  · cases e
theorem TRp.none {v : V} (h : TRp K B z H v .none) : v = .non := by
  rcases h with h | ⟨a, vs, es, e, _⟩
  · cases h; rfl
  · cases e
/-- what an operation may lean on -/
structure Zk (B : Bs) (z : Zn) (H : Hp) : Prop where
  live : ∀ a, z a ≠ none → H a ≠ none
  pool : ∀ a, B.isP a → z a ≠ none
theorem Sim.zk (S : Sim K B env z σ H) : Zk B z H := ⟨S.live, S.pool⟩
theorem Zk.new (k : Zk B z H) {p : Addr} (h : H p = none) : z p = none := by
  cases e : z p with
  | none => rfl
  | some n => exact absurd h (k.live p (by rw [e]; exact fun q => nomatch q))
/-- a new object is shared -/
theorem Zk.sh (k : Zk B z H) {p : Addr} {o : HO} (h : H p = none) : Sh z (upd H p o) p = some o := by
  unfold Sh
  rw [if_pos (k.new h), upd_same]
theorem Zk.sub (k : Zk B z H) {p : Addr} {o : HO} (h : H p = none) : Sub (Sh z H) (Sh z (upd H p o)) := Sh.mono fun a u _ e => sub_upd h a u e
end

/-! ### the judgements -/
section
variable (K : PySem.W.Frag) (B : Bs)
def liftE (f : FE) : TE := fun σ H Q => ∃ env z Qd, Sim K B env z σ H ∧ f env Qd ∧ ∀ v H' x, Qd x → Gr K B H H' → Rp K (Sh z H') v x → Q v H'
def liftR (f : FE) : TE := fun σ H Q => ∃ env z Qd, Sim K B env z σ H ∧ f env Qd ∧ ∀ v H' x, Qd x → Gr K B H H' → TRp K B z H' v x → Q v H'
def liftT (f : FT) : TT := fun σ H Q => ∃ env z Qd, Sim K B env z σ H ∧ f env Qd ∧ ∀ b H', Qd b → Gr K B H H' → Q b H'
/-- data, some of them perhaps lists of the def's own -/
inductive TRpL (z : Zn) (H : Hp) : List V → List D → Prop
  | nil : TRpL z H [] []
  | cons {v : V} {vs : List V} {d : D} {ds : List D} : TRp K B z H v d → TRpL z H vs ds → TRpL z H (v :: vs) (d :: ds)
def ArgOk (z : Zn) (H : Hp) : V → Slot → Prop
  | v, .d x => Rp K (Sh z H) v x
  | v, .bor xs => ∃ a vs, v = .ref a ∧ ¬ B.isP a ∧ H a = some (.lst vs) ∧ RpL K (Sh z H) vs xs
  | v, .pool => ∃ p, B.po = some p ∧ v = .ref p.pa
  | _, _ => False
inductive ArgsOk (z : Zn) (H : Hp) : List V → List Slot → Prop
  | nil : ArgsOk z H [] []
  | cons {v : V} {vs : List V} {d : Slot} {ds : List Slot} : ArgOk K B z H v d → ArgsOk z H vs ds → ArgsOk z H (v :: vs) (d :: ds)
/-- a new list: at p, that was not there; its items are shared, p itself is not known to anybody -/
def hide (z : Zn) (p : Addr) (k : Nat) : Zn := fun a => if a = p then some k else z a
def liftN (f : FN) : TE := fun σ H Q => ∃ env z Qd, Sim K B env z σ H ∧ f env Qd ∧ ∀ p H' vs xs, Qd xs → H p = none → Gr K B H H' → H' p = some (.lst vs) → RpL K (Sh (hide z p 0) H') vs xs → Q (.ref p) H'
/-- what is not the def's own stands, in its zone -/
structure Fr (z : Zn) (H : Hp) (z' : Zn) (H' : Hp) : Prop where
  keep : ∀ a o, ¬ B.isP a → (∀ j, z a ≠ some (j + 1)) → H a = some o → H' a = some o ∧ z' a = z a
def liftS (f : FS) : TS := fun D σ H => ∃ env z E, Sim K B env z σ H ∧ f E env ∧ (∀ env' z' σ' H', E.nx env' → Sim K B env' z' σ' H' → Fr B z H z' H' → D.nx σ' H') ∧
  (∀ x v H', E.rt x → Gr K B B.H0 H' → Rp K (Sh B.z0 H') v x → D.rt v H') ∧ (∀ env' z' σ' H', E.bk env' → Sim K B env' z' σ' H' → Fr B z H z' H' → D.bk σ' H') ∧ (∀ env' z' σ' H', E.ct env' → Sim K B env' z' σ' H' → Fr B z H z' H' → D.ct σ' H')
end
section
variable (X : Cx) (B : Bs)
def DE (e : Expr) (f : FE) : Prop := PE X e (liftE X.K B f)
def DR (e : Expr) (f : FE) : Prop := PE X e (liftR X.K B f)
def DN (e : Expr) (f : FN) : Prop := PE X e (liftN X.K B f)
def DT (e : Expr) (f : FT) : Prop := PT X e (liftT X.K B f)
structure DDs (es : List Expr) (f : FDs) : Prop where
  ex : ∃ t, PA X es t ∧ ∀ σ H env z Qd (Q : List V → Hp → Prop), Sim X.K B env z σ H → f env Qd → (∀ vs H' xs, Qd xs → Gr X.K B H H' → RpL X.K (Sh z H') vs xs → vs.length = es.length → Q vs H') → t σ H Q
structure DRs (es : List Expr) (f : FDs) : Prop where
  ex : ∃ t, PA X es t ∧ ∀ σ H env z Qd (Q : List V → Hp → Prop), Sim X.K B env z σ H → f env Qd → (∀ vs H' xs, Qd xs → Gr X.K B H H' → TRpL X.K B z H' vs xs → Q vs H') → t σ H Q
structure DA (es : List Expr) (f : FA) : Prop where
  ex : ∃ t, PA X es t ∧ ∀ σ H env z Qd (Q : List V → Hp → Prop), Sim X.K B env z σ H → f env Qd → (∀ vs H' xs, Qd xs → Gr X.K B H H' → ArgsOk X.K B z H' vs xs → vs.length = es.length → Q vs H') → t σ H Q
def DS (st : Stmt) (f : FS) : Prop := PS X st (liftS X.K B f)
def DSs (st : List Stmt) (f : FS) : Prop := PSs X st (liftS X.K B f)
end
section
variable {X : Cx} {B : Bs}
theorem _root_.L2.PE.wk {e : Expr} {t t' : TE} (h : PE X e t) (w : ∀ σ H Q, t' σ H Q → t σ H Q) : PE X e t' := ⟨fun pins s σ H Q I q => h.run pins s σ H Q I (w σ H Q q)⟩
theorem _root_.L2.PT.wk {e : Expr} {t t' : TT} (h : PT X e t) (w : ∀ σ H Q, t' σ H Q → t σ H Q) : PT X e t' := ⟨fun pins s σ H Q I q => h.run pins s σ H Q I (w σ H Q q)⟩
theorem _root_.L2.PW.wk {e : Expr} {t t' : TT} (h : PW X e t) (w : ∀ σ H Q, t' σ H Q → t σ H Q) : PW X e t' := ⟨fun wh pins s σ H Q I q => h.run wh pins s σ H Q I (w σ H Q q)⟩
theorem _root_.L2.PA.wk {e : List Expr} {t t' : TA} (h : PA X e t) (w : ∀ σ H Q, t' σ H Q → t σ H Q) : PA X e t' := ⟨fun pos pins s σ H Q I q => h.run pos pins s σ H Q I (w σ H Q q)⟩
theorem _root_.L2.PS.wk {e : Stmt} {t t' : TS} (h : PS X e t) (w : ∀ D σ H, t' D σ H → t D σ H) : PS X e t' := ⟨fun pins s σ H D I q => h.run pins s σ H D I (w D σ H q)⟩
theorem _root_.L2.PSs.wk {e : List Stmt} {t t' : TS} (h : PSs X e t) (w : ∀ D σ H, t' D σ H → t D σ H) : PSs X e t' := ⟨fun pins s σ H D I q => h.run pins s σ H D I (w D σ H q)⟩

theorem Fr.refl {z : Zn} {H : Hp} : Fr B z H z H := ⟨fun _ _ _ _ h => ⟨h, rfl⟩⟩
theorem Fr.trans {z1 z2 z3 : Zn} {H1 H2 H3 : Hp} (a : Fr B z1 H1 z2 H2) (b : Fr B z2 H2 z3 H3) : Fr B z1 H1 z3 H3 := ⟨fun x o n h e => by
  obtain ⟨e1, e2⟩ := a.keep x o n h e
  obtain ⟨e3, e4⟩ := b.keep x o n (fun j => by rw [e2]; exact h j) e1
  exact ⟨e3, e4.trans e2⟩⟩
theorem Fr.of_gr {K : PySem.W.Frag} {z : Zn} {H H' : Hp} (g : Gr K B H H') : Fr B z H z H' := ⟨fun a o n _ e => ⟨g.keep a o n e, rfl⟩⟩
theorem Fr.sub {z z' : Zn} {H H' : Hp} (hp : ∀ a, B.isP a → z a ≠ none) (f : Fr B z H z' H') : Sub (Sh z H) (Sh z' H') := fun a o e => by
  unfold Sh at e ⊢
  split at e
  · rename_i hz
    obtain ⟨e1, e2⟩ := f.keep a o (fun q => hp a q hz) (fun j => by rw [hz]; exact fun q => nomatch q) e
    rw [if_pos (e2.trans hz), e1]
  · cases e
/-! ### names and constants -/
theorem get_of_join {σ : L2.St} {i : Nat} {v : V} (h : σ[i]?.join = some v) : σ[i]? = some (some v) := by
  cases e : σ[i]? with
  | none => rw [e] at h; cases h
  | some o => rw [e] at h; simp at h; rw [h]
theorem de_var {i : Nat} {x : Str} {pos : Pos} (hN : X.N[i]? = some x) (hv : Vis X.env.scope x) (hd : (x == ("__debug__" : Str)) = false := by decide) (hcd : (x == ("__classdict__" : Str)) = false := by decide) : DE X B (.Name x pos) (fVar i) :=
  (pe_var hN hv hd hcd).wk fun σ H Q ⟨env, z, Qd, S, hf, k⟩ => by
    unfold fVar at hf
    cases e : env[i]? with
    | none => rw [e] at hf; exact hf.elim
    | some s =>
      rw [e] at hf
      have q := S.sl i s e
      cases s with
      | d x =>
        obtain ⟨v, h1, h2⟩ := q
        exact ⟨v, get_of_join h1, k v H x hf (Gr.refl H) h2⟩
      | _ => exact hf.elim
theorem dr_var {i : Nat} {x : Str} {pos : Pos} (hN : X.N[i]? = some x) (hv : Vis X.env.scope x) (hd : (x == ("__debug__" : Str)) = false := by decide) (hcd : (x == ("__classdict__" : Str)) = false := by decide) : DR X B (.Name x pos) (fVarT i) :=
  (pe_var hN hv hd hcd).wk fun σ H Q ⟨env, z, Qd, S, hf, k⟩ => by
    unfold fVarT at hf
    cases e : env[i]? with
    | none => rw [e] at hf; exact hf.elim
    | some s =>
      rw [e] at hf
      have q := S.sl i s e
      cases s with
      | d x =>
        obtain ⟨v, h1, h2⟩ := q
        exact ⟨v, get_of_join h1, k v H x hf (Gr.refl H) (.inl h2)⟩
      | own xs =>
        obtain ⟨p, vs, h1, h2, h3, h4⟩ := q
        refine ⟨_, get_of_join h1, k _ H _ hf (Gr.refl H) (.inr ⟨p, vs, xs, rfl, rfl, h3, fun hp => ?_, h4⟩)⟩
        have := S.hot p (S.pz p hp)
        rw [h2] at this
        cases this
      | bor xs =>
        obtain ⟨p, vs, h1, h2, h3, h4, h5⟩ := q
        exact ⟨_, get_of_join h1, k _ H _ hf (Gr.refl H) (.inr ⟨p, vs, xs, rfl, rfl, h4, h3, h5⟩)⟩
      | _ => exact hf.elim
theorem dr {e : Expr} {f : FE} (h : DE X B e f) : DR X B e f := h.wk fun σ H Q ⟨env, z, Qd, S, hf, k⟩ => ⟨env, z, Qd, S, hf, fun v H' x q g r => k v H' x q g (.inl r)⟩
theorem de_c {e : Expr} {v : V} {x : D} (h : PE X e (tC v)) (r : ∀ G, Rp X.K G v x) : DE X B e (fC x) := h.wk fun σ H Q ⟨env, z, Qd, S, hf, k⟩ => k v H x hf (Gr.refl H) (r _)
theorem de_int {i j pos} : DE X B (.Constant (.int i) j pos) (fC (.int i)) := de_c pe_int fun _ => .int i
theorem de_bl {b j pos} : DE X B (.Constant (.bool b) j pos) (fC (.bool b)) := de_c pe_bl fun _ => .bl b
theorem de_non {j pos} : DE X B (.Constant .none j pos) (fC .none) := de_c pe_non fun _ => .non
theorem de_str {x j pos} : DE X B (.Constant (.str x) j pos) (fC (.str x)) := de_c pe_str fun _ => .str x
/-- a constant of the module -/
structure KC (K : PySem.W.Frag) (mg : Str → Option Value) (x : Str) (c : D) : Prop where
  ex : ∃ v u, mg x = some u ∧ RelV v u ∧ ∀ G, Rp K G v c
theorem de_glob {x : Str} {c : D} {pos : Pos} (k : KC X.K X.mg x c) (hg : Gl X x) (hd : (x == ("__debug__" : Str)) = false := by decide) : DE X B (.Name x pos) (fC c) := by
  obtain ⟨v, u, h1, h2, h3⟩ := k.ex
  exact de_c (pe_glob hg h1 h2 hd) h3

/-! ### operations -/
section
variable {a b c : Expr} {fa fb fc : FE} {pos : Pos}
/-- what an operation of two values does to data -/
def G2 (X : Cx) (B : Bs) (r : R2) (g : D → D → (D → Prop) → Prop) : Prop := ∀ (z : Zn) (H : Hp) (x y : V) (d e : D) (Qd : D → Prop) (Q : VK), Zk B z H → TRp X.K B z H x d → TRp X.K B z H y e → g d e Qd →
  (∀ v H' c, Qd c → Gr X.K B H H' → Rp X.K (Sh z H') v c → Q v H') → r x y H Q
def G1 (X : Cx) (B : Bs) (r : V → Hp → VK → Prop) (g : D → (D → Prop) → Prop) : Prop := ∀ (z : Zn) (H : Hp) (x : V) (d : D) (Qd : D → Prop) (Q : VK), Zk B z H → TRp X.K B z H x d → g d Qd →
  (∀ v H' c, Qd c → Gr X.K B H H' → Rp X.K (Sh z H') v c → Q v H') → r x H Q
theorem bin_wk {r : R2} {g : D → D → (D → Prop) → Prop} (hg : G2 X B r g) (σ : L2.St) (H : Hp) (Q : VK) (h : liftE X.K B (fBin g fa fb) σ H Q) : tOp r (liftR X.K B fa) (liftR X.K B fb) σ H Q := by
  obtain ⟨env, z, Qd, S, hf, k⟩ := h
  refine ⟨env, z, _, S, hf, fun v H1 x q g1 r1 => ?_⟩
  refine ⟨env, z, _, S.grow g1, q, fun w H2 y q2 g2 r2 => ?_⟩
  exact hg z H2 v w x y Qd Q ((S.grow g1).grow g2).zk (r1.grow S.pool g2) r2 q2 fun u H3 c q3 g3 r3 => k u H3 c q3 ((g1.trans g2).trans g3) r3
theorem de_op {op : Operator} {r : R2} {g : D → D → (D → Prop) → Prop} (ho : OpR X (binaryOp op) r) (hg : G2 X B r g) (ha : DR X B a fa) (hb : DR X B b fb) : DE X B (.BinOp a op b pos) (fBin g fa fb) :=
  (pe_op ho ha hb).wk fun σ H Q h => bin_wk hg σ H Q h
theorem de_cmp {op : CmpOp} {r : R2} {g : D → D → (D → Prop) → Prop} (ho : OpR X (compareOp op) r) (hg : G2 X B r g) (ha : DR X B a fa) (hb : DR X B b fb) (hm : behindInMarks op b = false) : DE X B (.Compare a [op] [b] pos) (fBin g fa fb) :=
  (pe_cmpR ho ha hb hm).wk fun σ H Q h => bin_wk hg σ H Q h
theorem de_un {op : UnaryOp} {r : V → Hp → VK → Prop} {g : D → (D → Prop) → Prop} (ho : UnR X (unaryOp op) r) (hg : G1 X B r g) (ha : DR X B a fa) : DE X B (.UnaryOp op a pos) (fUn g fa) :=
  (pe_un ho ha).wk fun σ H Q h => by
    obtain ⟨env, z, Qd, S, hf, k⟩ := h
    refine ⟨env, z, _, S, hf, fun v H1 x q g1 r1 => ?_⟩
    exact hg z H1 v x Qd Q (S.grow g1).zk r1 q fun u H3 c q3 g3 r3 => k u H3 c q3 (g1.trans g3) r3
theorem de_ix {r : R2} {g : D → D → (D → Prop) → Prop} (hr : IxR X r) (hg : G2 X B r g) (ha : DR X B a fa) (hb : DR X B b fb) (hs : PlainIx b) : DE X B (.Subscript a b pos) (fBin g fa fb) :=
  (pe_ix hr ha hb hs).wk fun σ H Q h => bin_wk hg σ H Q h

theorem rp_list {K : PySem.W.Frag} {z : Zn} {H : Hp} {p : Addr} {vs : List V} {xs : List D} (k : Zk B z H) (h : H p = none) (r : RpL K (Sh z H) vs xs) : Rp K (Sh z (upd H p (.lst vs))) (.ref p) (.list xs) := .lst (k.sh h) (r.mono (k.sub h))
theorem rp_tuple {K : PySem.W.Frag} {z : Zn} {H : Hp} {p : Addr} {vs : List V} {xs : List D} (k : Zk B z H) (h : H p = none) (r : RpL K (Sh z H) vs xs) : Rp K (Sh z (upd H p (.tup vs))) (.ref p) (.tuple xs) := .tup (.of (k.sh h)) (r.mono (k.sub h))
end
end
end DL

set_option Elab.async false
set_option linter.all false
set_option maxRecDepth 100000
set_option maxHeartbeats 1000000
/-! DLC: the D-layer's rules for operations, tests, displays. -/
namespace DL
open PySem PySem.Spec PyProof.Rows L2
section
variable {X : Cx} {B : Bs} {a b c : Expr} {fa fb fc : FE} {pos : Pos}

theorem mulW_ok {i j : Int} (h : i.natAbs.log2 + j.natAbs.log2 < 1000000 ∨ i.natAbs < 2 ^ 64 ∨ j.natAbs < 2 ^ 64) : IntMulOk i j := by
  rcases h with h | h | h
  · exact CMulW.ok h
  · exact .of_left (intBits_le_64 (by omega) (by omega))
  · exact .of_right (intBits_le_64 (by omega) (by omega))
theorem op_mulA : OpR X (binaryOp .Mult) (rI (fun i j => i.natAbs.log2 + j.natAbs.log2 < 1000000 ∨ i.natAbs < 2 ^ 64 ∨ j.natAbs < 2 ^ 64) fun i j => .int (i * j)) := opI fun _ _ _ _ _ _ _ hc q => mul_int q (mulW_ok hc)

/-- + -/
theorem de_add (ha : DR X B a fa) (hb : DR X B b fb) : DE X B (.BinOp a .Add b pos) (fBin gAdd fa fb) := by
  refine de_op (op_add.or (op_add_str.or (op_cat.or op_catT))) ?_ ha hb
  intro z H x y d e Qd Q k rx ry hg q
  cases d <;> cases e <;> try exact hg.elim
  case int.int i j =>
    cases rx.int; cases ry.int
    exact .inl ⟨i, j, rfl, rfl, q _ H _ hg (Gr.refl H) (.int _)⟩
  case str.str i j =>
    cases rx.str; cases ry.str
    exact .inr (.inl ⟨i, j, rfl, rfl, hg.1, q _ H _ hg.2 (Gr.refl H) (.str _)⟩)
  case list.list xs ys =>
    obtain ⟨p, vs, rfl, h1, r1⟩ := rx.list
    obtain ⟨p2, ws, rfl, h2, r2⟩ := ry.list
    refine .inr (.inr (.inl ⟨p, p2, vs, ws, rfl, rfl, h1, h2, ?_, fun l hl => q _ _ _ hg.2 (Gr.new hl) (rp_list k hl (r1.append r2))⟩))
    rw [r1.length, r2.length]
    exact hg.1
  case tuple.tuple xs ys =>
    obtain ⟨p, vs, rfl, h1, r1⟩ := rx.tuple
    obtain ⟨p2, ws, rfl, h2, r2⟩ := ry.tuple
    obtain ⟨g1, g2, g3, g4⟩ := hg
    refine .inr (.inr (.inr ⟨p, p2, vs, ws, rfl, rfl, (Sh.sub z H).st h1, (Sh.sub z H).st h2, fun e => ?_, ?_, fun e => ?_, fun _ l hl => q _ _ _ g4 (Gr.new hl) (rp_tuple k hl (r1.append r2))⟩))
    · have := r1.length
      rw [e] at this
      exact g1 (List.length_eq_zero_iff.mp this.symm)
    · rw [r1.length, r2.length]
      exact g3
    · have := r2.length
      rw [e] at this
      exact absurd (List.length_eq_zero_iff.mp this.symm) g2
theorem de_sub (ha : DR X B a fa) (hb : DR X B b fb) : DE X B (.BinOp a .Sub b pos) (fBin gSub fa fb) := by
  refine de_op op_sub ?_ ha hb
  intro z H x y d e Qd Q k rx ry hg q
  cases d <;> cases e <;> try exact hg.elim
  case int.int i j =>
    cases rx.int; cases ry.int
    exact ⟨i, j, rfl, rfl, q _ H _ hg (Gr.refl H) (.int _)⟩
theorem de_mul (ha : DR X B a fa) (hb : DR X B b fb) : DE X B (.BinOp a .Mult b pos) (fBin gMul fa fb) := by
  refine de_op (op_mulA.or op_rep) ?_ ha hb
  intro z H x y d e Qd Q k rx ry hg q
  cases d <;> cases e <;> try exact hg.elim
  case int.int i j =>
    cases rx.int; cases ry.int
    exact .inl ⟨i, j, rfl, rfl, hg.1, q _ H _ hg.2 (Gr.refl H) (.int _)⟩
  case list.int xs n =>
    obtain ⟨p, vs, rfl, h1, r1⟩ := rx.list
    cases ry.int
    refine .inr ⟨p, n, vs, rfl, rfl, h1, by have := hg.2.1; omega, by have := hg.1; omega, ?_, fun l hl => q _ _ _ hg.2.2.2 (Gr.new hl) (rp_list k hl (r1.rep _))⟩
    rw [r1.length]
    exact hg.2.2.1
theorem de_mod (ha : DR X B a fa) (hb : DR X B b fb) : DE X B (.BinOp a .Mod b pos) (fBin gMod fa fb) := by
  refine de_op op_mod ?_ ha hb
  intro z H x y d e Qd Q k rx ry hg q
  cases d <;> cases e <;> try exact hg.elim
  case int.int i j =>
    cases rx.int; cases ry.int
    exact ⟨i, j, rfl, rfl, hg.1, q _ H _ hg.2 (Gr.refl H) (.int _)⟩
theorem de_div (ha : DR X B a fa) (hb : DR X B b fb) : DE X B (.BinOp a .FloorDiv b pos) (fBin gDiv fa fb) := by
  refine de_op op_fdivW ?_ ha hb
  intro z H x y d e Qd Q k rx ry hg q
  cases d <;> cases e <;> try exact hg.elim
  case int.int i j =>
    cases rx.int; cases ry.int
    exact ⟨i, j, rfl, rfl, ⟨hg.1, hg.2.1⟩, q _ H _ hg.2.2 (Gr.refl H) (.int _)⟩
theorem de_pow (ha : DR X B a fa) (hb : DR X B b fb) : DE X B (.BinOp a .Pow b pos) (fBin gPow fa fb) := by
  refine de_op op_pow ?_ ha hb
  intro z H x y d e Qd Q k rx ry hg q
  cases d <;> cases e <;> try exact hg.elim
  case int.int i j =>
    cases rx.int; cases ry.int
    exact ⟨i, j, rfl, rfl, ⟨hg.1, hg.2.1, hg.2.2.1⟩, q _ H _ hg.2.2.2 (Gr.refl H) (.int _)⟩
theorem de_neg (ha : DR X B a fa) : DE X B (.UnaryOp .USub a pos) (fUn gNeg fa) := by
  refine de_un un_neg ?_ ha
  intro z H x d Qd Q k rx hg q
  cases d <;> try exact hg.elim
  case int i =>
    cases rx.int
    exact ⟨i, rfl, q _ H _ hg (Gr.refl H) (.int _)⟩

/-! comparisons: the rule and what it does to data -/
structure CmpD (X : Cx) (B : Bs) (op : CmpOp) (g : D → D → (D → Prop) → Prop) : Prop where
  ex : ∃ r, OpR X (compareOp op) r ∧ G2 X B r g
theorem de_cp {op : CmpOp} {g : D → D → (D → Prop) → Prop} (h : CmpD X B op g) (ha : DR X B a fa) (hb : DR X B b fb) (hm : behindInMarks op b = false := by rfl) : DE X B (.Compare a [op] [b] pos) (fBin g fa fb) := by
  obtain ⟨r, h1, h2⟩ := h.ex
  exact de_cmp h1 h2 ha hb hm
theorem dt_cp {op : CmpOp} {g : D → D → (D → Prop) → Prop} (h : CmpD X B op g) (ha : DR X B a fa) (hb : DR X B b fb) (hm : behindInMarks op b = false := by rfl) : DT X B (.Compare a [op] [b] pos) (fB (fBin g fa fb)) := by
  obtain ⟨r, h1, h2⟩ := h.ex
  refine (pt_cmpR h1 ha hb hm).wk fun σ H Q ⟨env, z, Qd, S, hf, k⟩ => ?_
  refine bin_wk h2 σ H _ ⟨env, z, _, S, hf, fun v H' x q g r => ?_⟩
  cases x <;> try exact q.elim
  case bool i => cases r; exact ⟨i, rfl, k i H' q g⟩
theorem cd_eq (hu : X.A.units + 64 < cLine) : CmpD X B .Eq gEq := ⟨_, op_eqD hu, fun z H x y d e Qd Q k rx ry hg q => ⟨d, e, rx.dp, ry.dp, hg.1, hg.2.1, q _ H _ hg.2.2 (Gr.refl H) (.bl _)⟩⟩
theorem cd_ne (hu : X.A.units + 64 < cLine) : CmpD X B .NotEq gNe := ⟨_, op_neD hu, fun z H x y d e Qd Q k rx ry hg q => ⟨d, e, rx.dp, ry.dp, hg.1, hg.2.1, q _ H _ hg.2.2 (Gr.refl H) (.bl _)⟩⟩
theorem cd_in (hu : X.A.units + 65 < cLine) : CmpD X B .In gIn := ⟨_, op_inD hu, fun z H x y d e Qd Q k rx ry hg q => by
  cases e <;> try exact hg.elim
  case list xs => exact ⟨d, xs, rx.dp, ry.dp, hg.1, hg.2.1, q _ H _ hg.2.2 (Gr.refl H) (.bl _)⟩⟩
theorem cd_notIn (hu : X.A.units + 65 < cLine) : CmpD X B .NotIn gNotIn := ⟨_, op_notInD hu, fun z H x y d e Qd Q k rx ry hg q => by
  cases e <;> try exact hg.elim
  case list xs => exact ⟨d, xs, rx.dp, ry.dp, hg.1, hg.2.1, q _ H _ hg.2.2 (Gr.refl H) (.bl _)⟩⟩
theorem cd_int {op : CmpOp} {p : Int → Int → Bool} {g : D → D → (D → Prop) → Prop} (h : OpR X (compareOp op) (rI0 fun i j => .bl (p i j))) (hg : ∀ d e Q, g d e Q → ∃ i j, d = .int i ∧ e = .int j ∧ Q (.bool (p i j))) : CmpD X B op g :=
  ⟨_, h, fun z H x y d e Qd Q k rx ry hq q => by
    obtain ⟨i, j, rfl, rfl, hq'⟩ := hg d e Qd hq
    cases rx.int; cases ry.int
    exact ⟨i, j, rfl, rfl, q _ H _ hq' (Gr.refl H) (.bl _)⟩⟩
theorem cd_le : CmpD X B .LtE gLe := cd_int op_le fun d e Q h => by cases d <;> cases e <;> first | exact h.elim | exact ⟨_, _, rfl, rfl, h⟩
theorem cd_gt : CmpD X B .Gt gGt := cd_int op_gt fun d e Q h => by cases d <;> cases e <;> first | exact h.elim | exact ⟨_, _, rfl, rfl, h⟩
theorem cd_ge : CmpD X B .GtE gGe := cd_int op_ge fun d e Q h => by cases d <;> cases e <;> first | exact h.elim | exact ⟨_, _, rfl, rfl, h⟩
/-- < of ints alone -/
def gLtI : D → D → (D → Prop) → Prop
  | .int i, .int j, Q => Q (.bool (decide (i < j)))
  | _, _, _ => False
theorem cd_lt : CmpD X B .Lt gLtI := cd_int op_lt fun d e Q h => by cases d <;> cases e <;> first | exact h.elim | exact ⟨_, _, rfl, rfl, h⟩
/-- a is None, a is not None -/
def gIsN : D → D → (D → Prop) → Prop
  | x, .none, Q => Q (.bool (isNone x))
  | _, _, _ => False
def gNotN : D → D → (D → Prop) → Prop
  | x, .none, Q => Q (.bool (!isNone x))
  | _, _, _ => False
theorem isNone_rp {K : PySem.W.Frag} {z : Zn} {H : Hp} {v : V} {x : D} (r : TRp K B z H v x) : decide (v = .non) = isNone x := by
  rcases r with r | ⟨a, vs, ds, rfl, rfl, _⟩
  · cases r <;> rfl
  · rfl
theorem cd_isN : CmpD X B .Is gIsN := ⟨_, op_isN, fun z H x y d e Qd Q k rx ry hg q => by
  cases e <;> try (cases d <;> exact hg.elim)
  case none =>
    cases ry.none
    refine ⟨rfl, ?_⟩
    rw [isNone_rp rx]
    exact q _ H _ hg (Gr.refl H) (.bl _)⟩
theorem cd_notN : CmpD X B .IsNot gNotN := ⟨_, op_notN, fun z H x y d e Qd Q k rx ry hg q => by
  cases e <;> try (cases d <;> exact hg.elim)
  case none =>
    cases ry.none
    refine ⟨rfl, ?_⟩
    rw [isNone_rp rx]
    exact q _ H _ hg (Gr.refl H) (.bl _)⟩

/-! subscripts, slices -/
theorem atI_rp {K : PySem.W.Frag} {G : Hp} {vs : List V} {xs : List D} {i : Int} {x : D} (r : RpL K G vs xs) (h : atI xs i = some x) : ∃ v, atI vs i = some v ∧ Rp K G v x := by
  unfold atI at h ⊢
  rw [r.length]
  cases e : ixN xs.length i with
  | none => rw [e] at h; cases h
  | some j =>
    rw [e] at h
    obtain ⟨v, h1, h2⟩ := r.get (i := j) (x := x) h
    exact ⟨v, h1, h2⟩
theorem de_idx (ha : DR X B a fa) (hb : DR X B b fb) (hs : PlainIx b := by intro _ _; rfl) : DE X B (.Subscript a b pos) (fBin gIx fa fb) := by
  refine de_ix ix_seq ?_ ha hb hs
  intro z H x y d e Qd Q k rx ry hg q
  cases d <;> cases e <;> try exact hg.elim
  case str.int s i =>
    cases rx.str; cases ry.int
    obtain ⟨h1, h2⟩ := hg
    obtain ⟨c, e, h3⟩ := need_get h2
    exact .inr (.inr ⟨s, i, c, rfl, rfl, h1, e, q _ H _ h3 (Gr.refl H) (.str _)⟩)
  case list.int xs i =>
    cases ry.int
    obtain ⟨p, vs, rfl, h1, r1⟩ := rx.list
    obtain ⟨c, e, hg⟩ := need_get hg
    obtain ⟨v, h2, h3⟩ := atI_rp r1 e
    exact .inl ⟨p, vs, i, v, rfl, rfl, .of h1, h2, q _ H _ hg (Gr.refl H) h3⟩
  case tuple.int xs i =>
    cases ry.int
    obtain ⟨p, vs, rfl, h1, r1⟩ := rx.tuple
    obtain ⟨c, e, hg⟩ := need_get hg
    obtain ⟨v, h2, h3⟩ := atI_rp r1 e
    exact .inr (.inl ⟨p, vs, i, v, rfl, rfl, (Sh.sub z H).st h1, h2, q _ H _ hg (Gr.refl H) h3⟩)
def liftO (K : PySem.W.Frag) (B : Bs) (f : FO) : TO := fun σ H Q => ∃ env z Qd, Sim K B env z σ H ∧ f env Qd ∧ ∀ o H', Qd o → Gr K B H H' → Q o H'
def DO (X : Cx) (B : Bs) (e : Option Expr) (f : FO) : Prop := PO X e (liftO X.K B f)
theorem _root_.L2.PO.wk {e : Option Expr} {t t' : TO} (h : PO X e t) (w : ∀ σ H Q, t' σ H Q → t σ H Q) : PO X e t' := ⟨fun pins s σ H Q I q => h.run pins s σ H Q I (w σ H Q q)⟩
theorem do_none : DO X B none fNoPart := (po_none).wk fun σ H Q ⟨env, z, Qd, S, hf, k⟩ => k _ H hf (Gr.refl H)
theorem do_some (h : DE X B a fa) : DO X B (some a) (fPart fa) := (po_some h).wk fun σ H Q ⟨env, z, Qd, S, hf, k⟩ => ⟨env, z, _, S, hf, fun v H' x q g r => by
  cases x <;> try exact q.elim
  case int i => cases r; exact ⟨i, rfl, k _ H' q g⟩⟩
theorem cut_rp {K : PySem.W.Frag} {G : Hp} {vs : List V} {xs : List D} {lo hi : Option Int} (r : RpL K G vs xs) : RpL K G (cutV vs lo hi) (cutD xs lo hi) := by
  unfold cutV cutD
  rw [r.length]
  exact (r.drop _).take _
theorem take_all {α : Type} (xs : List α) : (xs.drop 0).take xs.length = xs := by simp
theorem de_slice {lo hi : Option Expr} {fl fh : FO} {p2 : Pos} (ha : DR X B a fa) (hl : DO X B lo fl) (hh : DO X B hi fh) : DE X B (.Subscript a (.Slice lo hi none p2) pos) (fSl fa fl fh) := by
  refine (pe_slice (sl_list.or sl_tupA) ha hl hh).wk fun σ H Q ⟨env, z, Qd, S, hf, k⟩ => ?_
  refine ⟨env, z, _, S, hf, fun v H1 x q1 g1 r1 => ⟨env, z, _, S.grow g1, q1, fun l H2 q2 g2 => ⟨env, z, _, (S.grow g1).grow g2, q2, fun h H3 q3 g3 => ?_⟩⟩⟩
  have r3 := (r1.grow S.pool g2).grow S.pool g3
  have zk := (((S.grow g1).grow g2).grow g3).zk
  have gg := (g1.trans g2).trans g3
  cases x <;> try exact q3.elim
  case list xs =>
    obtain ⟨p, vs, rfl, h1, r⟩ := r3.list
    exact .inl ⟨p, vs, rfl, .of h1, fun l hl => k _ _ _ q3 (gg.trans (Gr.new hl)) (rp_list zk hl (cut_rp r))⟩
  case tuple xs =>
    obtain ⟨p, vs, rfl, h1, r⟩ := r3.tuple
    refine .inr ⟨p, vs, rfl, (Sh.sub z _).st h1, fun hw => ?_, fun _ l hl => k _ _ _ q3 (gg.trans (Gr.new hl)) (rp_tuple zk hl (cut_rp r))⟩
    rw [r.length] at hw
    have e : cutD xs l h = xs := by
      unfold cutD
      rw [hw.1, hw.2]
      simp
    refine k _ _ _ q3 gg ?_
    rw [e]
    exact .tup h1 r
theorem de_rev {kk : Nat} {p1 p2 p3 : Pos} (ha : DR X B a fa) : DE X B (.Subscript a (.Slice none none (some (.UnaryOp .USub (.Constant (.int 1) kk p1) p2)) p3) pos) (fRev fa) := by
  refine (pe_revL ha).wk fun σ H Q ⟨env, z, Qd, S, hf, k⟩ => ?_
  refine ⟨env, z, _, S, hf, fun v H1 x q1 g1 r1 => ?_⟩
  cases x <;> try exact q1.elim
  case list xs =>
    obtain ⟨p, vs, rfl, h1, r⟩ := r1.list
    exact ⟨p, vs, rfl, .of h1, fun l hl => k _ _ _ q1 (g1.trans (Gr.new hl)) (rp_list (S.grow g1).zk hl r.reverse)⟩

/-! tests -/
theorem dt_val {e : Expr} {f : FE} (h : DE X B e f) (he : ∀ whole, isTrue e X.env whole = (do let v ← whole; standAt e.pos; holding [v] (truthy v)) := by intro _; rfl) : DT X B e (fB f) :=
  (pt_val h he).wk fun σ H Q ⟨env, z, Qd, S, hf, k⟩ => ⟨env, z, _, S, hf, fun v H' x q g r => by
    cases x <;> try exact q.elim
    case bool i => cases r; exact ⟨i, rfl, k i H' q g⟩⟩
theorem dt_tru {e : Expr} {f : FE} (h : DR X B e f) (he : ∀ whole, isTrue e X.env whole = (do let v ← whole; standAt e.pos; holding [v] (truthy v)) := by intro _; rfl) : DT X B e (fTru f) :=
  (pt_truth h he).wk fun σ H Q ⟨env, z, Qd, S, hf, k⟩ => ⟨env, z, _, S, hf, fun v H' x q g r => by
    cases x with
    | none => cases r.none; exact ⟨_, rfl, k _ H' q g⟩
    | bool b => cases r.bool; exact ⟨_, rfl, k _ H' q g⟩
    | int i => cases r.int; exact ⟨_, rfl, k _ H' q g⟩
    | str s => exact q.elim
    | list xs =>
      obtain ⟨p, vs, rfl, h1, r1⟩ := r.list
      refine ⟨!vs.isEmpty, .inl ⟨vs, .of h1, rfl⟩, ?_⟩
      have e : vs.isEmpty = xs.isEmpty := by
        cases r1 <;> rfl
      rw [e]
      exact k _ H' q g
    | tuple xs =>
      obtain ⟨p, vs, rfl, h1, r1⟩ := r.tuple
      refine ⟨!vs.isEmpty, .inr (.inl ⟨vs, (Sh.sub z H').st h1, rfl⟩), ?_⟩
      have e : vs.isEmpty = xs.isEmpty := by
        cases r1 <;> rfl
      rw [e]
      exact k _ H' q g
    | dict _ => exact q.elim⟩
end
end DL

set_option Elab.async false
set_option linter.all false
set_option maxRecDepth 100000
set_option maxHeartbeats 1000000
/-! DLD: the D-layer's rules: tests, displays, calls, statements, loops. -/
namespace DL
open PySem PySem.Spec PyProof.Rows L2
section
variable {X : Cx} {B : Bs} {a b c : Expr} {fa fb fc : FE} {ta tb : FT} {pos : Pos} {rest : List Expr}

/-! ### tests -/
def DW (X : Cx) (B : Bs) (e : Expr) (f : FT) : Prop := PW X e (liftT X.K B f)
theorem dt_w {e : Expr} {f : FT} (h : DW X B e f) : DT X B e f := PW.pt h
theorem dw_and1 (ha : DT X B a ta) : DW X B (.BoolOp .And [a] pos) ta := pw_and1 ha
theorem dw_or1 (ha : DT X B a ta) : DW X B (.BoolOp .Or [a] pos) ta := pw_or1 ha
theorem dw_and (ha : DT X B a ta) (hb : DW X B (.BoolOp .And (b :: rest) pos) tb) : DW X B (.BoolOp .And (a :: b :: rest) pos) (fAnd ta tb) :=
  (pw_and ha hb).wk fun σ H Q ⟨env, z, Qd, S, hf, k⟩ => ⟨env, z, _, S, hf, fun b H1 q g => by
    cases b with
    | true => exact ⟨env, z, _, S.grow g, q, fun b2 H2 q2 g2 => k b2 H2 q2 (g.trans g2)⟩
    | false => exact k _ _ q g⟩
theorem dw_or (ha : DT X B a ta) (hb : DW X B (.BoolOp .Or (b :: rest) pos) tb) : DW X B (.BoolOp .Or (a :: b :: rest) pos) (fOr ta tb) :=
  (pw_or ha hb).wk fun σ H Q ⟨env, z, Qd, S, hf, k⟩ => ⟨env, z, _, S, hf, fun b H1 q g => by
    cases b with
    | false => exact ⟨env, z, _, S.grow g, q, fun b2 H2 q2 g2 => k b2 H2 q2 (g.trans g2)⟩
    | true => exact k _ _ q g⟩
theorem dt_not (ha : DT X B a ta) : DT X B (.UnaryOp .Not a pos) (fNot ta) :=
  (pt_not ha).wk fun σ H Q ⟨env, z, Qd, S, hf, k⟩ => ⟨env, z, _, S, hf, fun b H1 q g => k _ _ q g⟩
/-- and, or, not as values -/
def fAndV (fa fb : FE) : FE := fun env Q => fa env fun x => match x with | .bool b => if b = true then fb env Q else Q (.bool false) | _ => False
def fOrV (fa fb : FE) : FE := fun env Q => fa env fun x => match x with | .bool b => if b = true then Q (.bool true) else fb env Q | _ => False
def fNotV (fa : FE) : FE := fun env Q => fa env fun x => match x with | .bool b => Q (.bool (!b)) | _ => False
theorem de_one {op : BoolOp} (ha : DE X B a fa) : DE X B (.BoolOp op [a] pos) fa := pe_one ha
theorem de_and (ha : DE X B a fa) (hb : DE X B (.BoolOp .And (b :: rest) pos) fb) : DE X B (.BoolOp .And (a :: b :: rest) pos) (fAndV fa fb) :=
  (pe_and ha hb).wk fun σ H Q ⟨env, z, Qd, S, hf, k⟩ => ⟨env, z, _, S, hf, fun v H1 x q g r => by
    cases x <;> try exact q.elim
    case bool b =>
      cases r
      refine ⟨b, rfl, ?_⟩
      cases b with
      | true => exact ⟨env, z, _, S.grow g, q, fun b2 H2 x2 q2 g2 r2 => k b2 H2 x2 q2 (g.trans g2) r2⟩
      | false => exact k _ _ _ q g (.bl _)⟩
theorem de_or (ha : DE X B a fa) (hb : DE X B (.BoolOp .Or (b :: rest) pos) fb) : DE X B (.BoolOp .Or (a :: b :: rest) pos) (fOrV fa fb) :=
  (pe_or ha hb).wk fun σ H Q ⟨env, z, Qd, S, hf, k⟩ => ⟨env, z, _, S, hf, fun v H1 x q g r => by
    cases x <;> try exact q.elim
    case bool b =>
      cases r
      refine ⟨b, rfl, ?_⟩
      cases b with
      | false => exact ⟨env, z, _, S.grow g, q, fun b2 H2 x2 q2 g2 r2 => k b2 H2 x2 q2 (g.trans g2) r2⟩
      | true => exact k _ _ _ q g (.bl _)⟩
theorem de_not (ha : DE X B a fa) : DE X B (.UnaryOp .Not a pos) (fNotV fa) :=
  (pe_not ha).wk fun σ H Q ⟨env, z, Qd, S, hf, k⟩ => ⟨env, z, _, S, hf, fun v H1 x q g r => by
    cases x <;> try exact q.elim
    case bool b => cases r; exact ⟨b, rfl, k _ _ _ q g (.bl _)⟩⟩
theorem de_if (hc : DT X B c ta) (ha : DE X B a fa) (hb : DE X B b fb) : DE X B (.IfExp c a b pos) (fIte ta fa fb) :=
  (pe_ifExp hc ha hb).wk fun σ H Q ⟨env, z, Qd, S, hf, k⟩ => ⟨env, z, _, S, hf, fun b H1 q g => by
    cases b with
    | true => exact ⟨env, z, _, S.grow g, q, fun v H2 x q2 g2 r2 => k v H2 x q2 (g.trans g2) r2⟩
    | false => exact ⟨env, z, _, S.grow g, q, fun v H2 x q2 g2 r2 => k v H2 x q2 (g.trans g2) r2⟩⟩
theorem dr_if (hc : DT X B c ta) (ha : DR X B a fa) (hb : DR X B b fb) : DR X B (.IfExp c a b pos) (fIte ta fa fb) :=
  (pe_ifExp hc ha hb).wk fun σ H Q ⟨env, z, Qd, S, hf, k⟩ => ⟨env, z, _, S, hf, fun b H1 q g => by
    cases b with
    | true => exact ⟨env, z, _, S.grow g, q, fun v H2 x q2 g2 r2 => k v H2 x q2 (g.trans g2) r2⟩
    | false => exact ⟨env, z, _, S.grow g, q, fun v H2 x q2 g2 r2 => k v H2 x q2 (g.trans g2) r2⟩⟩

/-! ### displays -/
theorem dds_nil : DDs X B [] fsNil := ⟨_, pa_nil, fun σ H env z Qd Q S hf k => k [] H [] hf (Gr.refl H) .nil rfl⟩
theorem dds_cons {es : List Expr} {fr : FDs} (ha : DE X B a fa) (hr : DDs X B es fr) (hs : starEach (a :: es) X.env = (false, eval a X.env) :: starEach es X.env := by rfl) : DDs X B (a :: es) (fsCons fa fr) := by
  obtain ⟨t, h1, h2⟩ := hr.ex
  refine ⟨_, pa_cons ha h1 hs, fun σ H env z Qd Q S hf k => ⟨env, z, _, S, hf, fun v H1 x q g r => ?_⟩⟩
  refine h2 σ H1 env z _ _ (S.grow g) q fun vs H2 xs q2 g2 r2 e => k (v :: vs) H2 (x :: xs) q2 (g.trans g2) (.cons (r.mono (sh_gr S.pool g2)) r2) ?_
  rw [List.length_cons, List.length_cons, e]
theorem drs_nil : DRs X B [] fsNil := ⟨_, pa_nil, fun σ H env z Qd Q S hf k => k [] H [] hf (Gr.refl H) .nil⟩
theorem drs_cons {es : List Expr} {fr : FDs} (ha : DR X B a fa) (hr : DRs X B es fr) (hs : starEach (a :: es) X.env = (false, eval a X.env) :: starEach es X.env := by rfl) : DRs X B (a :: es) (fsCons fa fr) := by
  obtain ⟨t, h1, h2⟩ := hr.ex
  refine ⟨_, pa_cons ha h1 hs, fun σ H env z Qd Q S hf k => ⟨env, z, _, S, hf, fun v H1 x q g r => ?_⟩⟩
  exact h2 σ H1 env z _ _ (S.grow g) q fun vs H2 xs q2 g2 r2 => k (v :: vs) H2 (x :: xs) q2 (g.trans g2) (.cons (r.grow S.pool g2) r2)
theorem de_tup {es : List Expr} {f : FDs} {x1} (h : DDs X B es f) (hz : es.length ≤ sizeLine := by decide) : DE X B (.Tuple es x1 pos) (fTup f) := by
  obtain ⟨t, h1, h2⟩ := h.ex
  refine (pe_tup h1).wk fun σ H Q ⟨env, z, Qd, S, hf, k⟩ => h2 σ H env z _ _ S hf fun vs H1 xs q g r e => ⟨by rw [e]; exact hz, fun p hp => ?_⟩
  exact k _ _ _ q (g.trans (Gr.new hp)) (rp_tuple (S.grow g).zk hp r)
theorem fresh_back {K : PySem.W.Frag} {env : Env} {z : Zn} {σ : L2.St} {H H' : Hp} {p : Addr} (S : Sim K B env z σ H) (g : Gr K B H H') (h : H' p = none) : H p = none := by
  cases e : H p with
  | none => rfl
  | some o =>
    by_cases hp : B.isP p
    · obtain ⟨q, e1, rfl⟩ := hp
      obtain ⟨_, _, x, y, w, u⟩ := g.pool q e1 (S.pk q e1)
      rw [h] at u
      cases u
    · rw [g.keep p o hp e] at h
      cases h
theorem sub_hide {z : Zn} {H : Hp} {p : Addr} {o : HO} {k : Nat} (h : H p = none) : Sub (Sh z H) (Sh (hide z p k) (upd H p o)) := fun a u e => by
  have h1 : H a = some u := Sh.sub z H a u e
  have hne : a ≠ p := ne_of_none h1 h
  unfold Sh at e ⊢
  unfold hide
  rw [if_neg hne, upd_ne hne]
  exact e
theorem dn_lst {es : List Expr} {f : FDs} (h : DDs X B es f) (hz : es.length ≤ sizeLine := by decide) : DN X B (.List es pos) (nLst f) := by
  obtain ⟨t, h1, h2⟩ := h.ex
  refine (pe_lst h1).wk fun σ H Q ⟨env, z, Qd, S, hf, k⟩ => h2 σ H env z _ _ S hf fun vs H1 xs q g r e => ⟨by rw [e]; exact hz, fun p hp => ?_⟩
  exact k _ _ _ _ q (fresh_back S g hp) (g.trans (Gr.new hp)) upd_same (r.mono (sub_hide hp))
theorem de_n {e : Expr} {f : FN} (h : DN X B e f) : DE X B e (fOfN f) := h.wk fun σ H Q ⟨env, z, Qd, S, hf, k⟩ => ⟨env, z, _, S, hf, fun p H' vs xs q hp g e r => by
  have hz := S.zk.new hp
  refine k _ _ _ q g (.lst ?_ (r.mono ?_))
  · unfold Sh
    rw [if_pos hz, e]
  · intro a o ea
    unfold Sh at ea ⊢
    split at ea
    · rename_i ha
      unfold hide at ha
      split at ha
      · cases ha
      · rw [if_pos ha]
        exact ea
    · cases ea⟩

/-! ### calls -/
theorem da_nil : DA X B [] faNil := ⟨_, pa_nil, fun σ H env z Qd Q S hf k => k [] H [] hf (Gr.refl H) .nil rfl⟩
theorem ArgOk.grow {K : PySem.W.Frag} {z : Zn} {H H' : Hp} {v : V} {x : Slot} (hp : ∀ a, B.isP a → z a ≠ none) (g : Gr K B H H') (h : ArgOk K B z H v x) : ArgOk K B z H' v x := by
  cases x with
  | un => exact h.elim
  | own _ => exact h.elim
  | pool => exact h
  | d x => exact Rp.mono (sh_gr hp g) h
  | bor xs =>
    obtain ⟨a, vs, h1, h2, h3, h4⟩ := h
    exact ⟨a, vs, h1, h2, g.keep a _ h2 h3, h4.mono (sh_gr hp g)⟩
theorem da_d {es : List Expr} {fr : FA} (ha : DE X B a fa) (hr : DA X B es fr) (hs : starEach (a :: es) X.env = (false, eval a X.env) :: starEach es X.env := by rfl) : DA X B (a :: es) (faD fa fr) := by
  obtain ⟨t, h1, h2⟩ := hr.ex
  refine ⟨_, pa_cons ha h1 hs, fun σ H env z Qd Q S hf k => ⟨env, z, _, S, hf, fun v H1 x q g r => ?_⟩⟩
  refine h2 σ H1 env z _ _ (S.grow g) q fun vs H2 xs q2 g2 r2 e => k (v :: vs) H2 (.d x :: xs) q2 (g.trans g2) (.cons (show ArgOk X.K B z H2 v (.d x) from r.mono (sh_gr S.pool g2)) r2) ?_
  rw [List.length_cons, List.length_cons, e]
theorem da_bor {es : List Expr} {fr : FA} (ha : DR X B a fa) (hr : DA X B es fr) (hs : starEach (a :: es) X.env = (false, eval a X.env) :: starEach es X.env := by rfl) : DA X B (a :: es) (faBor fa fr) := by
  obtain ⟨t, h1, h2⟩ := hr.ex
  refine ⟨_, pa_cons ha h1 hs, fun σ H env z Qd Q S hf k => ⟨env, z, _, S, hf, fun v H1 x q g r => ?_⟩⟩
  cases x <;> try exact q.elim
  case list ys =>
    have ok : ArgOk X.K B z H1 v (.bor ys) := by
      rcases r with r | ⟨p, ws, ds, e1, e2, e3, e4, e5⟩
      · cases r with
        | lst h t =>
          refine ⟨_, _, rfl, fun hp => ?_, Sh.sub z _ _ _ h, t⟩
          unfold Sh at h
          split at h
          · rename_i hz
            exact S.pool _ hp hz
          · cases h
      · cases e1
        exact ⟨p, ws, e2, e4, e3, e5⟩
    refine h2 σ H1 env z _ _ (S.grow g) q fun vs H2 xs q2 g2 r2 e => k (v :: vs) H2 (.bor ys :: xs) q2 (g.trans g2) (.cons (ok.grow S.pool g2) r2) ?_
    rw [List.length_cons, List.length_cons, e]
theorem da_pool {es : List Expr} {fr : FA} {i : Nat} {x : Str} {p0 : Pos} (hN : X.N[i]? = some x) (hv : Vis X.env.scope x) (hr : DA X B es fr) (hs : starEach (.Name x p0 :: es) X.env = (false, eval (.Name x p0) X.env) :: starEach es X.env := by rfl)
    (hd : (x == ("__debug__" : Str)) = false := by decide) (hcd : (x == ("__classdict__" : Str)) = false := by decide) : DA X B (.Name x p0 :: es) (faPool i fr) := by
  obtain ⟨t, h1, h2⟩ := hr.ex
  refine ⟨_, pa_cons (pe_var hN hv hd hcd) h1 hs, fun σ H env z Qd Q S hf k => ?_⟩
  unfold faPool at hf
  cases e : env[i]? with
  | none => rw [e] at hf; exact hf.elim
  | some s =>
    rw [e] at hf
    have q := S.sl i s e
    cases s <;> try exact hf.elim
    case pool =>
      obtain ⟨p, e1, e2⟩ := q
      refine ⟨_, get_of_join e2, h2 σ H env z _ _ S hf fun vs H2 xs q2 g2 r2 e3 => k _ H2 (.pool :: xs) q2 g2 (.cons ⟨p, e1, rfl⟩ r2) ?_⟩
      rw [List.length_cons, List.length_cons, e3]
/-- how a def's run begins -/
structure Start (K : PySem.W.Frag) (B : Bs) : Prop where
  live : ∀ a, B.z0 a ≠ none → B.H0 a ≠ none
  zero : ∀ a, B.z0 a ≠ none → B.z0 a = some 0
  pz : ∀ a, B.isP a → B.z0 a ≠ none
  pk : ∀ p, B.po = some p → PoolOk K p B.H0
/-- what a def does, as a promise -/
def spD (K : PySem.W.Frag) (n : Nat) (w : W) : Sp := fun vs H Q _ => ∃ z po args Qd, Start K ⟨H, z, po⟩ ∧ ArgsOk K ⟨H, z, po⟩ z H vs args ∧ vs.length = n ∧ w args Qd ∧
  ∀ v H' x, Qd x → Gr K ⟨H, z, po⟩ H H' → Rp K (Sh z H') v x → Q v H'
/-- a def of the module that does w -/
structure Fnd (P : Program) (w : World) (K : PySem.W.Frag) (mg : Str → Option Value) (base : Heap) (k : Nat) (x : Str) (n : Nat) (f : W) : Prop where
  ex : ∃ (fa : Addr) (fd : FuncData) (ps : List Str), FnOk P w K mg base CX0 k fa fd ps (spD K n f) ∧ mg x = some (.ref fa) ∧ PySem.W.keepIn K (.ref fa) = true ∧ Binds K fd ps []
def flat (z : Zn) : Zn := fun a => if z a = none then none else some 0
theorem flat_none {z : Zn} {a : Addr} : flat z a = none ↔ z a = none := by
  unfold flat
  split
  · rename_i h; simp [h]
  · rename_i h; simp [h]
theorem sh_flat (z : Zn) (H : Hp) : Sh (flat z) H = Sh z H := by
  funext a
  unfold Sh
  by_cases h : z a = none
  · rw [if_pos (flat_none.mpr h), if_pos h]
  · rw [if_neg (fun e => h (flat_none.mp e)), if_neg h]
theorem Gr.base {K : PySem.W.Frag} {B1 B' : Bs} {H H' : Hp} (e : B1.po = B'.po) (g : Gr K B1 H H') : Gr K B' H H' :=
  ⟨fun a o n h => g.keep a o (fun ⟨p, q, r⟩ => n ⟨p, e ▸ q, r⟩) h, fun p q h => g.pool p (e ▸ q) h⟩
theorem argsOk_base {K : PySem.W.Frag} {B B' : Bs} {z : Zn} {H : Hp} (e : B.po = B'.po) {vs : List V} {xs : List Slot} (h : ArgsOk K B z H vs xs) : ArgsOk K B' (flat z) H vs xs := by
  induction h with
  | nil => exact .nil
  | @cons v vs d ds h t ih =>
    refine .cons ?_ ih
    cases d with
    | un => exact h.elim
    | own _ => exact h.elim
    | pool =>
      obtain ⟨p, q, r⟩ := h
      exact ⟨p, e ▸ q, r⟩
    | d x =>
      show Rp K (Sh (flat z) H) v x
      rw [sh_flat]
      exact h
    | bor xs =>
      obtain ⟨a, vs, h1, h2, h3, h4⟩ := h
      refine ⟨a, vs, h1, fun ⟨p, q, r⟩ => h2 ⟨p, e ▸ q, r⟩, h3, ?_⟩
      rw [sh_flat]
      exact h4
theorem Sim.start {K : PySem.W.Frag} {env : Env} {z : Zn} {σ : L2.St} {H : Hp} (S : Sim K B env z σ H) : Start K ⟨H, flat z, B.po⟩ where
  live := fun a h => S.live a fun e => h (flat_none.mpr e)
  zero := fun a h => by
    show flat z a = some 0
    have h' : flat z a ≠ none := h
    unfold flat at h' ⊢
    split
    · rename_i e; rw [if_pos e] at h'; exact absurd rfl h'
    · rfl
  pz := fun a h e => S.pool a h (flat_none.mp e)
  pk := S.pk
theorem de_call {f : W} {n k : Nat} {x : Str} {p : Pos} {e : Expr} {es : List Expr} {fa : FA} (F : Fnd X.prog X.w X.K X.mg X.base k x n f) (hr : Room k X.A) (hg : Gl X x) (ha : DA X B (e :: es) fa) (hn : (e :: es).length = n := by rfl)
    (hdb : (x == ("__debug__" : Str)) = false := by decide) (he : starEach (e :: es) X.env = (false, eval e X.env) :: starEach es X.env := by rfl) (hpl : (backTo pos (starEach es X.env)).any (·.1) = false := by rfl) :
    DE X B (.Call (.Name x p) (e :: es) [] pos) (fCall f fa) := by
  obtain ⟨g, fd, ps, F1, F2, F3, F4⟩ := F.ex
  obtain ⟨t, h1, h2⟩ := ha.ex
  refine (pe_call F1 hr hg F2 F3 F4 .nil pass0 h1 hdb he hpl).wk fun σ H Q ⟨env, z, Qd, S, hf, q⟩ => ?_
  refine h2 σ H env z _ _ S hf fun vs H1 xs q1 g1 r1 e1 => ?_
  have S1 := S.grow g1
  refine ⟨flat z, B.po, xs, Qd, S1.start, ?_, ?_, q1, fun v H' y qy gy ry => q v H' y qy (g1.trans (Gr.base (B1 := ⟨H1, flat z, B.po⟩) (B' := B) rfl gy)) ?_⟩
  · rw [List.append_nil]
    exact argsOk_base (B := B) (B' := ⟨H1, flat z, B.po⟩) rfl r1
  · rw [List.append_nil, e1, hn]
  · rw [sh_flat] at ry
    exact ry

/-! ### states changed -/
variable {K : PySem.W.Frag} {env : Env} {z : Zn} {σ : L2.St} {H H' : Hp}
theorem slot_ne {s : Slot} {i j : Nat} {v : Option V} (h : i ≠ j) (q : SlotOk K B z H j s (σ[j]?.join)) : SlotOk K B z H j s ((σ.set i v)[j]?.join) := by
  rw [List.getElem?_set_ne h]
  exact q
theorem get_set {env : Env} {i j : Nat} {s t : Slot} (h : (env.set i t)[j]? = some s) : (i = j ∧ s = t ∧ j < env.length) ∨ (i ≠ j ∧ env[j]? = some s) := by
  by_cases e : i = j
  · subst e
    by_cases hl : i < env.length
    · rw [List.getElem?_set_self hl] at h
      exact .inl ⟨rfl, (Option.some.inj h).symm, hl⟩
    · rw [List.getElem?_eq_none (by simpa using hl)] at h
      cases h
  · rw [List.getElem?_set_ne e] at h
    exact .inr ⟨e, h⟩
theorem join_set {σ : L2.St} {i : Nat} {v : V} (h : i < σ.length) : (σ.set i (some v))[i]?.join = some v := by
  rw [List.getElem?_set_self h]
  rfl
theorem Sim.set (S : Sim K B env z σ H) {i : Nat} {v : V} {x : D} (r : Rp K (Sh z H) v x) : Sim K B (env.set i (.d x)) z (σ.set i (some v)) H where
  gr := S.gr
  hot := S.hot
  own := S.own
  live := S.live
  live0 := S.live0
  pz := S.pz
  pk := S.pk
  pk0 := S.pk0
  len := by rw [List.length_set, List.length_set]; exact S.len
  sl := fun j s e => by
    rcases get_set e with ⟨rfl, rfl, hl⟩ | ⟨hne, e⟩
    · exact ⟨v, join_set (Nat.lt_of_lt_of_le hl S.len), r⟩
    · exact slot_ne hne (S.sl j s e)
theorem Sim.setNone (S : Sim K B env z σ H) {i : Nat} {o : Option V} : Sim K B (env.set i .un) z (σ.set i o) H where
  gr := S.gr
  hot := S.hot
  own := S.own
  live := S.live
  live0 := S.live0
  pz := S.pz
  pk := S.pk
  pk0 := S.pk0
  len := by rw [List.length_set, List.length_set]; exact S.len
  sl := fun j s e => by
    rcases get_set e with ⟨rfl, rfl, hl⟩ | ⟨hne, e⟩
    · trivial
    · exact slot_ne hne (S.sl j s e)
theorem Sim.wipe (S : Sim K B env z σ H) : ∀ vs : List Nat, Sim K B (wipeE env vs) z (L2.wipe σ vs) H
  | [] => S
  | v :: vs => (Sim.wipe S vs).setNone
theorem base_fresh (S : Sim K B env z σ H) {p : Addr} (h : H p = none) : B.H0 p = none := by
  cases e : B.H0 p with
  | none => rfl
  | some o =>
    by_cases hp : B.isP p
    · exact absurd h (S.live p (S.pool p hp))
    · rw [S.gr.keep p o hp e] at h
      cases h
/-- a new object, kept from the others -/
theorem Sim.hide (S : Sim K B env z σ H) (g : Gr K B H H') {p : Addr} (hp : H p = none) (hp' : H' p ≠ none) (k : Nat) : Sim K B env (DL.hide z p k) σ H' where
  gr := S.gr.trans g
  hot := fun a h => by
    unfold DL.hide
    split
    · rename_i e
      subst e
      exact absurd hp (S.live a (by rw [S.hot a h]; exact fun q => nomatch q))
    · exact S.hot a h
  own := fun a h => by
    unfold DL.hide at h
    split at h
    · rename_i e
      subst e
      exact .inr (base_fresh S hp)
    · exact S.own a h
  live := fun a h => by
    unfold DL.hide at h
    split at h
    · rename_i e
      subst e
      exact hp'
    · exact (S.grow g).live a h
  live0 := S.live0
  pz := S.pz
  pk := fun p e => g.pool p e (S.pk p e)
  pk0 := S.pk0
  len := S.len
  sl := fun i s e => by
    have q := S.sl i s e
    have m : Sub (Sh z H) (Sh (DL.hide z p k) H') := fun a o ea => by
      have h1 : H a = some o := Sh.sub z H a o ea
      have hne : a ≠ p := ne_of_none h1 hp
      unfold Sh at ea ⊢
      unfold DL.hide
      rw [if_neg hne]
      split at ea
      · rename_i hz
        rw [if_pos hz]
        exact g.keep a o (fun q => S.pool a q hz) ea
      · cases ea
    cases s with
    | un => trivial
    | d x =>
      obtain ⟨v, h1, h2⟩ := q
      exact ⟨v, h1, h2.mono m⟩
    | own xs =>
      obtain ⟨p', vs, h1, h2, h3, h4⟩ := q
      have hne : p' ≠ p := ne_of_none h3 hp
      refine ⟨p', vs, h1, ?_, g.keep p' _ (fun hp => ?_) h3, h4.mono m⟩
      · unfold DL.hide
        rw [if_neg hne]
        exact h2
      · have := S.hot p' (S.pz p' hp)
        rw [h2] at this
        cases this
    | bor xs =>
      obtain ⟨p', vs, h1, h2, h3, h4, h5⟩ := q
      have hne : p' ≠ p := ne_of_none h4 hp
      refine ⟨p', vs, h1, fun j => ?_, h3, g.keep p' _ h3 h4, h5.mono m⟩
      unfold DL.hide
      rw [if_neg hne]
      exact h2 j
    | pool => exact q
theorem sh_hide (z : Zn) (p : Addr) (j k : Nat) (H : Hp) : Sh (DL.hide z p j) H = Sh (DL.hide z p k) H := by
  funext a
  unfold Sh DL.hide
  by_cases h : a = p
  · rw [if_pos h, if_pos h, if_neg (fun q => nomatch q), if_neg (fun q => nomatch q)]
  · rw [if_neg h, if_neg h]
theorem fr_hide {p : Addr} {k : Nat} (hp : H p = none) (g : Gr K B H H') : Fr B z H (DL.hide z p k) H' := ⟨fun a o n _ e => ⟨g.keep a o n e, by
  unfold DL.hide
  rw [if_neg (ne_of_none e hp)]⟩⟩
/-- name = a new list of the def's own -/
theorem Sim.setOwn (S : Sim K B env z σ H) (g : Gr K B H H') {p : Addr} (hp : H p = none) {i : Nat} {vs : List V} {xs : List D} (hp' : H' p = some (.lst vs)) (r : RpL K (Sh (DL.hide z p 0) H') vs xs) :
    Sim K B (env.set i (.own xs)) (DL.hide z p (i + 1)) (σ.set i (some (.ref p))) H' := by
  have S1 := S.hide g hp (by rw [hp']; exact fun q => nomatch q) (i + 1)
  refine ⟨S1.gr, S1.hot, S1.own, S1.live, S1.live0, S1.pz, S1.pk, S1.pk0, by rw [List.length_set, List.length_set]; exact S1.len, fun j s e => ?_⟩
  rcases get_set e with ⟨rfl, rfl, hl⟩ | ⟨hne, e⟩
  · refine ⟨p, vs, join_set (Nat.lt_of_lt_of_le hl S.len), ?_, hp', ?_⟩
    · unfold DL.hide
      rw [if_pos rfl]
    · rw [sh_hide z p (i + 1) 0]
      exact r
  · exact slot_ne hne (S1.sl j s e)
def show1 (z : Zn) (p : Addr) : Zn := fun a => if a = p then none else z a
theorem Sim.free (S : Sim K B env z σ H) (i : Nat) : ∃ z', Sim K B (frzE i env) z' σ H ∧ Sub (Sh z H) (Sh z' H) ∧ ∀ a, (∀ j, z a ≠ some (j + 1)) → z' a = z a := by
  unfold frzE
  cases e : env[i]? with
  | none => exact ⟨z, S, Sub.refl _, fun _ _ => rfl⟩
  | some s =>
    cases s with
    | own xs =>
      obtain ⟨p, vs, h1, h2, h3, h4⟩ := S.sl i _ e
      have m : Sub (Sh z H) (Sh (show1 z p) H) := Sh.zone fun a _ hz => by
        unfold show1
        split
        · rfl
        · exact hz
      refine ⟨show1 z p, ⟨S.gr, fun a h => ?_, fun a h => ?_, fun a h => ?_, S.live0, S.pz, S.pk, S.pk0, by rw [List.length_set]; exact S.len, fun j s e' => ?_⟩, m, fun a h => ?_⟩
      · unfold show1
        split
        · rename_i q
          subst q
          have := S.hot a h
          rw [h2] at this
          cases this
        · exact S.hot a h
      · unfold show1 at h
        split at h
        · exact absurd rfl h
        · exact S.own a h
      · unfold show1 at h
        split at h
        · exact absurd rfl h
        · exact S.live a h
      · rcases get_set e' with ⟨rfl, rfl, hl⟩ | ⟨hne, e'⟩
        · refine ⟨.ref p, h1, .lst ?_ (h4.mono m)⟩
          unfold Sh show1
          rw [if_pos rfl, if_pos rfl]
          exact h3
        · have q := S.sl j s e'
          cases s with
          | un => trivial
          | d x =>
            obtain ⟨v, q1, q2⟩ := q
            exact ⟨v, q1, q2.mono m⟩
          | own ys =>
            obtain ⟨p', ws, q1, q2, q3, q4⟩ := q
            refine ⟨p', ws, q1, ?_, q3, q4.mono m⟩
            unfold show1
            rw [if_neg]
            · exact q2
            · intro q
              rw [q, h2] at q2
              exact hne (by have := Option.some.inj q2; omega)
          | bor ys =>
            obtain ⟨p', ws, q1, q2, q3, q4, q5⟩ := q
            refine ⟨p', ws, q1, fun j => ?_, q3, q4, q5.mono m⟩
            unfold show1
            split
            · exact fun q => nomatch q
            · exact q2 j
          | pool => exact q
      · unfold show1
        split
        · rename_i q
          subst q
          exact absurd h2 (h i)
        · rfl
    | un => exact ⟨z, S, Sub.refl _, fun _ _ => rfl⟩
    | d x => exact ⟨z, S, Sub.refl _, fun _ _ => rfl⟩
    | bor xs => exact ⟨z, S, Sub.refl _, fun _ _ => rfl⟩
    | pool => exact ⟨z, S, Sub.refl _, fun _ _ => rfl⟩
/-- the own list at a name is changed -/
theorem Sim.mut (S : Sim K B env z σ H) {i : Nat} {p : Addr} {vs ws : List V} {ys : List D} (h1 : σ[i]?.join = some (.ref p)) (h2 : z p = some (i + 1)) (h3 : H p = some (.lst vs)) (r : RpL K (Sh z H) ws ys) :
    Sim K B (env.set i (.own ys)) z σ (upd H p (.lst ws)) ∧ Fr B z H z (upd H p (.lst ws)) ∧ Sub (Sh z H) (Sh z (upd H p (.lst ws))) := by
  have m : Sub (Sh z H) (Sh z (upd H p (.lst ws))) := Sh.mono fun a o hz e => by
    rw [upd_ne]
    · exact e
    · intro q
      rw [q, h2] at hz
      cases hz
  have np : ¬ B.isP p := fun hp => by
    have := S.hot p (S.pz p hp)
    rw [h2] at this
    cases this
  have z0 : B.H0 p = none := by
    rcases S.own p (by rw [h2]; exact fun q => nomatch q) with q | q
    · have := S.hot p q
      rw [h2] at this
      cases this
    · exact q
  have kp : ∀ a o, ¬ B.isP a → B.H0 a = some o → upd H p (.lst ws) a = some o := fun a o n e => by
    rw [upd_ne (ne_of_none e z0)]
    exact S.gr.keep a o n e
  have pk : ∀ q, B.po = some q → PoolOk K q (upd H p (.lst ws)) := fun q e => by
    obtain ⟨n1, s1, x, y, w, u⟩ := S.pk q e
    obtain ⟨_, s0, _⟩ := S.pk0 q e
    refine ⟨n1, ?_, x, y, w, ?_⟩
    · rcases s0 with ⟨n0, s0⟩ | s0
      · have nsa : ¬ B.isP q.sa := fun ⟨q', e', e2⟩ => by
          rw [e] at e'
          cases e'
          exact n0 e2
        refine .inl ⟨n0, ?_⟩
        rcases s0 with s0 | ⟨o, s0⟩
        · exact .inl (kp _ _ nsa s0)
        · exact .inr ⟨o, kp _ _ nsa s0⟩
      · exact .inr s0
    · rw [upd_ne]
      · exact u
      · intro e2
        exact np ⟨q, e, e2.symm⟩
  refine ⟨⟨⟨kp, fun q e _ => pk q e⟩, S.hot, S.own, fun a h => ?_, S.live0, S.pz, pk, S.pk0, by rw [List.length_set]; exact S.len, fun j s e => ?_⟩, ⟨fun a o n hz e => ⟨?_, rfl⟩⟩, m⟩
  · by_cases e : a = p
    · rw [e, upd_same]
      exact fun q => nomatch q
    · rw [upd_ne e]
      exact S.live a h
  · rcases get_set e with ⟨rfl, rfl, hl⟩ | ⟨hne, e⟩
    · exact ⟨p, ws, h1, h2, upd_same, r.mono m⟩
    · have q := S.sl j s e
      cases s with
      | un => trivial
      | d x =>
        obtain ⟨v, q1, q2⟩ := q
        exact ⟨v, q1, q2.mono m⟩
      | own ys =>
        obtain ⟨p', us, q1, q2, q3, q4⟩ := q
        refine ⟨p', us, q1, q2, ?_, q4.mono m⟩
        rw [upd_ne]
        · exact q3
        · intro q
          rw [q, h2] at q2
          exact hne (by have := Option.some.inj q2; omega)
      | bor ys =>
        obtain ⟨p', us, q1, q2, q3, q4, q5⟩ := q
        refine ⟨p', us, q1, q2, q3, ?_, q5.mono m⟩
        rw [upd_ne]
        · exact q4
        · intro q
          rw [q] at q2
          exact q2 i h2
      | pool => exact q
  · rw [upd_ne]
    · exact e
    · intro q
      rw [q] at hz
      exact hz i h2
end
end DL

set_option Elab.async false
set_option linter.all false
set_option maxRecDepth 100000
set_option maxHeartbeats 1000000
/-! DLE: the D-layer's rules: targets, statements, loops, comprehensions, defs. -/
namespace DL
open PySem PySem.Spec PyProof.Rows L2
section
variable {X : Cx} {B : Bs} {a b c : Expr} {fa fb fc : FE} {ta tb : FT} {pos : Pos} {rest : List Expr}

/-! ### targets -/
structure DG (X : Cx) (B : Bs) (pu : Bool) (tg : Expr) (is : List Nat) (g : FG) : Prop where
  ex : ∃ t, PG X tg t ∧ ∀ v x σ H env z Qd (Q : L2.St → Hp → Prop), Sim X.K B env z σ H → Rp X.K (Sh z H) v x → g x env Qd →
    (∀ σ' H' env', Qd env' → Sim X.K B env' z σ' H' → Fr B z H z H' → Sub (Sh z H) (Sh z H') → (pu = true → H' = H) → (∀ vs, (∀ i ∈ is, i ∈ vs) → L2.wipe σ' vs = L2.wipe σ vs) → Q σ' H') → t v σ H Q
structure DGs (X : Cx) (B : Bs) (pu : Bool) (tgs : List Expr) (is : List Nat) (g : FGs) : Prop where
  ex : ∃ t, PGs X tgs t ∧ ∀ vs xs σ H env z Qd (Q : L2.St → Hp → Prop), Sim X.K B env z σ H → RpL X.K (Sh z H) vs xs → g xs env Qd →
    (∀ σ' H' env', Qd env' → Sim X.K B env' z σ' H' → Fr B z H z H' → Sub (Sh z H) (Sh z H') → (pu = true → H' = H) → (∀ vs, (∀ i ∈ is, i ∈ vs) → L2.wipe σ' vs = L2.wipe σ vs) → Q σ' H') → t vs σ H Q
theorem wipe_set {σ : L2.St} {i : Nat} {o : Option V} : ∀ {vs : List Nat}, i ∈ vs → L2.wipe (σ.set i o) vs = L2.wipe σ vs
  | [], h => absurd h (by simp)
  | v :: vs, h => by
    unfold L2.wipe
    by_cases e : i ∈ vs
    · rw [wipe_set e]
    · have e2 : i = v := by
        rcases List.mem_cons.mp h with q | q
        · exact q
        · exact absurd q e
      subst e2
      have key : ∀ (us : List Nat), i ∉ us → (L2.wipe (σ.set i o) us).set i none = (L2.wipe σ us).set i none := fun us => by
        induction us with
        | nil =>
          intro _
          show (σ.set i o).set i none = σ.set i none
          rw [List.set_set]
        | cons u us ih =>
          intro hn
          have h1 : i ≠ u := fun q => hn (by rw [q]; exact List.mem_cons_self)
          have h2 : i ∉ us := fun q => hn (List.mem_cons_of_mem _ q)
          unfold L2.wipe
          rw [List.set_comm _ _ h1.symm, ih h2, List.set_comm _ _ h1]
      exact key vs e
theorem dg_name {pu : Bool} {i : Nat} {x : Str} (hN : X.N.Nodup) (hi : X.N[i]? = some x) (hx : Loc X.env.scope x) (hf : X.fn x = true ∨ X.env.scope.names.lookup x = some .local := by first | exact .inl rfl | exact .inr rfl | assumption) : DG X B pu (.Name x pos) [i] (gNm i) :=
  ⟨_, pg_name hN hi hx hf, fun v x σ H env z Qd Q S r h k => k _ H _ h (S.set r) Fr.refl (Sub.refl _) (fun _ => rfl) fun vs hv => wipe_set (hv i (by simp))⟩
theorem dgs_nil {pu : Bool} : DGs X B pu [] [] gsNil := ⟨_, pgs_nil, fun vs xs σ H env z Qd Q S r h k => by
  obtain ⟨e, h⟩ := h
  subst e
  cases r
  exact ⟨rfl, k σ H env h S Fr.refl (Sub.refl _) (fun _ => rfl) fun _ _ => rfl⟩⟩
theorem dgs_cons {pu : Bool} {e : Expr} {es : List Expr} {is js : List Nat} {g : FG} {gs : FGs} (h1 : DG X B pu e is g) (h2 : DGs X B pu es js gs)
    (hs : (assignEach (e :: es) X.env).map (·.2) = assign e X.env :: (assignEach es X.env).map (·.2) := by rfl) : DGs X B pu (e :: es) (is ++ js) (gsCons g gs) := by
  obtain ⟨t1, p1, q1⟩ := h1.ex
  obtain ⟨t2, p2, q2⟩ := h2.ex
  refine ⟨_, pgs_cons p1 p2 hs, fun vs xs σ H env z Qd Q S r h k => ?_⟩
  cases r with
  | nil => exact h.elim
  | @cons v vs x xs r rr =>
    refine ⟨v, vs, rfl, q1 v x σ H env z _ _ S r h fun σ1 H1 env1 h1 S1 f1 m1 p1 w1 => ?_⟩
    refine q2 vs xs σ1 H1 env1 z _ _ S1 (rr.mono m1) h1 fun σ2 H2 env2 h2 S2 f2 m2 p2 w2 => k σ2 H2 env2 h2 S2 (f1.trans f2) (m1.trans m2) (fun e => (p2 e).trans (p1 e)) fun us hu => ?_
    rw [w2 us fun i hi => hu i (List.mem_append_right _ hi), w1 us fun i hi => hu i (List.mem_append_left _ hi)]
theorem pg_or {e : Expr} {t u : TG} (h1 : PG X e t) (h2 : PG X e u) : PG X e (fun v σ H Q => t v σ H Q ∨ u v σ H Q) := ⟨fun pins s σ H v w Q I r q => q.elim (fun q => h1.run pins s σ H v w Q I r q) fun q => h2.run pins s σ H v w Q I r q⟩
theorem dg_tup {pu : Bool} {es : List Expr} {kk : Nat} {is : List Nat} {g : FGs} {n : Nat} (h : DGs X B pu es is g) (hl : ∀ xs env Q, g xs env Q → xs.length = n) (hc : X.calm = true := by rfl)
    (hn : (assignEach es X.env).length = n := by rfl) (hst : (assignEach es X.env).findIdx? (·.1) = none := by rfl) : DG X B pu (.Tuple es kk pos) is (gTp g) := by
  obtain ⟨t, p, q⟩ := h.ex
  refine ⟨_, pg_or (pg_tup hc p hn hst) (pg_unl hc p hn hst), fun v x σ H env z Qd Q S r h k => ?_⟩
  cases r <;> try exact h.elim
  case lst a ds us hs r =>
    exact .inr ⟨a, _, rfl, .of (Sh.sub z H _ _ hs), r.length.trans (hl _ _ _ h), q _ _ σ H env z _ _ S r h k⟩
  case tup a ds us hs r =>
    exact .inl ⟨a, _, rfl, (Sh.sub z H).st hs, r.length.trans (hl _ _ _ h), q _ _ σ H env z _ _ S r h k⟩
theorem gs_len0 : ∀ xs env Q, gsNil xs env Q → xs.length = 0 := fun xs env Q h => by rw [h.1]; rfl
theorem gs_lenS {g : FG} {gs : FGs} {n : Nat} (h : ∀ xs env Q, gs xs env Q → xs.length = n) (mono : ∀ x env (Q : Env → Prop), g x env Q → ∃ e, Q e) : ∀ xs env Q, gsCons g gs xs env Q → xs.length = n + 1 := fun xs env Q q => by
  cases xs with
  | nil => exact q.elim
  | cons x xs =>
    obtain ⟨e, q⟩ := mono x env _ q
    rw [List.length_cons, h xs e Q q]
theorem nm_ex {i : Nat} : ∀ x env (Q : Env → Prop), gNm i x env Q → ∃ e, Q e := fun _ _ _ h => ⟨_, h⟩
theorem tp_ex {g : FGs} (h : ∀ xs env (Q : Env → Prop), g xs env Q → ∃ e, Q e) : ∀ x env (Q : Env → Prop), gTp g x env Q → ∃ e, Q e := fun x env Q q => by
  cases x <;> try exact q.elim
  case list xs => exact h xs env Q q
  case tuple xs => exact h xs env Q q
theorem gs_ex0 : ∀ xs env (Q : Env → Prop), gsNil xs env Q → ∃ e, Q e := fun _ env _ h => ⟨env, h.2⟩
theorem gs_exS {g : FG} {gs : FGs} (h1 : ∀ x env (Q : Env → Prop), g x env Q → ∃ e, Q e) (h2 : ∀ xs env (Q : Env → Prop), gs xs env Q → ∃ e, Q e) : ∀ xs env (Q : Env → Prop), gsCons g gs xs env Q → ∃ e, Q e := fun xs env Q q => by
  cases xs with
  | nil => exact q.elim
  | cons x xs =>
    obtain ⟨e, q⟩ := h1 x env _ q
    exact h2 xs e Q q
/-- xs[k] = .. , xs a list of the def's own -/
theorem dg_item {i : Nat} {x : Str} {p0 : Pos} (hN : X.N[i]? = some x) (hv : Vis X.env.scope x) (hb : DE X B b fb) (hd : (x == ("__debug__" : Str)) = false := by decide) (hcd : (x == ("__classdict__" : Str)) = false := by decide)
    (ha : ∀ v, assign (.Subscript (.Name x p0) b pos) X.env v = (do
      let ov ← holding [v] (eval (.Name x p0) X.env)
      let iv ← holding [v, ov] (eval b X.env)
      standAt pos
      holding [v, ov, iv] (setItem ov iv v)
      release [v, ov, iv] []) := by intro _; rfl) : DG X B false (.Subscript (.Name x p0) b pos) [] (gItem i fb) := by
  refine ⟨_, pg_sub (pe_var hN hv hd hcd) hb set_list ha, fun v y σ H env z Qd Q S r h k => ?_⟩
  obtain ⟨xs, e, h⟩ := mutS_get h
  obtain ⟨p, vs, h1, h2, h3, h4⟩ := S.sl i _ e
  refine ⟨_, get_of_join h1, env, z, _, S, h, fun w H1 kx q g ri => ?_⟩
  cases kx <;> try exact q.elim
  case int n =>
    cases ri
    obtain ⟨j, hj, q⟩ := need_get q
    have S1 := S.grow g
    obtain ⟨p', vs', h1', h2', h3', h4'⟩ := S1.sl i _ e
    have ep : p' = p := by
      rw [h1] at h1'
      cases h1'
      rfl
    subst ep
    have r1 : Rp X.K (Sh z H1) v y := r.mono (sh_gr S.pool g)
    obtain ⟨S2, f2, m2⟩ := S1.mut (ws := vs'.set j v) (ys := xs.set j y) h1' h2' h3' (RpL.set r1 j h4')
    refine ⟨p', vs', n, j, rfl, rfl, h3', by rw [h4'.length]; exact hj, ?_⟩
    exact k σ _ _ q S2 ((Fr.of_gr g).trans f2) ((sh_gr S.pool g).trans m2) (fun e => nomatch e) fun _ _ => rfl

/-! ### statements -/
variable {st : Stmt} {sts : List Stmt} {fs gs : FS} {e : Expr} {f : FE}
theorem dss_nil : DSs X B [] sNext := pss_nil.wk fun D σ H ⟨env, z, E, S, hf, k1, k2, k3, k4⟩ => k1 env z σ H hf S Fr.refl
theorem dss_cons (h1 : DS X B st fs) (h2 : DSs X B sts gs) : DSs X B (st :: sts) (sSeq fs gs) := (pss_cons h1 h2).wk fun D σ H ⟨env, z, E, S, hf, k1, k2, k3, k4⟩ =>
  ⟨env, z, _, S, hf, fun env' z' σ' H' q S' F' => ⟨env', z', E, S', q, fun e2 z2 s2 H2 q2 S2 F2 => k1 e2 z2 s2 H2 q2 S2 (F'.trans F2), k2, fun e2 z2 s2 H2 q2 S2 F2 => k3 e2 z2 s2 H2 q2 S2 (F'.trans F2), fun e2 z2 s2 H2 q2 S2 F2 => k4 e2 z2 s2 H2 q2 S2 (F'.trans F2)⟩, k2, k3, k4⟩
theorem dss_one (h1 : DS X B st fs) : DSs X B [st] fs := pss_one h1
/-- ahead of a statement the list at a name is given away -/
theorem ds_frz (i : Nat) (h : DS X B st fs) : DS X B st (sFrz i fs) := PS.wk h fun D σ H ⟨env, z, E, S, hf, k1, k2, k3, k4⟩ => by
  obtain ⟨z', S', m, hz⟩ := S.free i
  have f0 : Fr B z H z' H := ⟨fun a o n hj e => ⟨e, hz a hj⟩⟩
  exact ⟨frzE i env, z', E, S', hf, fun e2 z2 s2 H2 q2 S2 F2 => k1 e2 z2 s2 H2 q2 S2 (f0.trans F2), k2, fun e2 z2 s2 H2 q2 S2 F2 => k3 e2 z2 s2 H2 q2 S2 (f0.trans F2), fun e2 z2 s2 H2 q2 S2 F2 => k4 e2 z2 s2 H2 q2 S2 (f0.trans F2)⟩
theorem sub_z0 {K : PySem.W.Frag} {env : Env} {z : Zn} {σ : L2.St} {H H' : Hp} (S : Sim K B env z σ H) : Sub (Sh z H') (Sh B.z0 H') := fun a o e => by
  unfold Sh at e ⊢
  split at e
  · rename_i hz
    rw [if_pos]
    · exact e
    · cases q : B.z0 a with
      | none => rfl
      | some n =>
        have := S.hot a (by rw [q]; exact fun z => nomatch z)
        rw [hz] at this
        cases this
  · cases e
theorem ds_ret (h : DE X B e f) : DS X B (.Return (some e) pos) (sRet f) := (ps_ret h).wk fun D σ H ⟨env, z, E, S, hf, k1, k2, k3, k4⟩ =>
  ⟨env, z, _, S, hf, fun v H' x q g r => k2 x v H' q (S.gr.trans g) (r.mono (sub_z0 S))⟩
theorem ds_retN : DS X B (.Return none pos) sRetN := ps_retN.wk fun D σ H ⟨env, z, E, S, hf, k1, k2, k3, k4⟩ => k2 _ _ H hf S.gr .non
theorem ds_brk : DS X B (.Break pos) sBrk := ps_break.wk fun D σ H ⟨env, z, E, S, hf, k1, k2, k3, k4⟩ => k3 env z σ H hf S Fr.refl
theorem ds_cnt : DS X B (.Continue pos) sCnt := ps_continue.wk fun D σ H ⟨env, z, E, S, hf, k1, k2, k3, k4⟩ => k4 env z σ H hf S Fr.refl
theorem ds_if {sa sb : List Stmt} (hc : DT X B c ta) (ha : DSs X B sa fs) (hb : DSs X B sb gs) : DS X B (.If c sa sb pos) (sIf ta fs gs) := (ps_if hc ha hb).wk fun D σ H ⟨env, z, E, S, hf, k1, k2, k3, k4⟩ =>
  ⟨env, z, _, S, hf, fun b H' q g => by
    have f0 : Fr B z H z H' := Fr.of_gr g
    cases b with
    | true => exact ⟨env, z, E, S.grow g, q, fun e2 z2 s2 H2 q2 S2 F2 => k1 e2 z2 s2 H2 q2 S2 (f0.trans F2), k2, fun e2 z2 s2 H2 q2 S2 F2 => k3 e2 z2 s2 H2 q2 S2 (f0.trans F2), fun e2 z2 s2 H2 q2 S2 F2 => k4 e2 z2 s2 H2 q2 S2 (f0.trans F2)⟩
    | false => exact ⟨env, z, E, S.grow g, q, fun e2 z2 s2 H2 q2 S2 F2 => k1 e2 z2 s2 H2 q2 S2 (f0.trans F2), k2, fun e2 z2 s2 H2 q2 S2 F2 => k3 e2 z2 s2 H2 q2 S2 (f0.trans F2), fun e2 z2 s2 H2 q2 S2 F2 => k4 e2 z2 s2 H2 q2 S2 (f0.trans F2)⟩⟩
theorem ds_drop (h : DE X B e f) (hs : swapsWith e none pos.line X.env = pure false := by rfl) : DS X B (.Expr e pos) (sDrop f) := (ps_expr h hs).wk fun D σ H ⟨env, z, E, S, hf, k1, k2, k3, k4⟩ =>
  ⟨env, z, _, S, hf, fun v H' x q g r => k1 env z σ H' q (S.grow g) (Fr.of_gr g)⟩
theorem ds_set {i : Nat} {x : Str} {pos' : Pos} (hN : X.N.Nodup) (hi : X.N[i]? = some x) (hx : Loc X.env.scope x) (h : DE X B e f) (hs : swapsWith e (some (.Name x pos')) pos.line X.env = pure false := by rfl) (hf : X.fn x = true ∨ X.env.scope.names.lookup x = some .local := by first | exact .inl rfl | exact .inr rfl | assumption) :
    DS X B (.Assign [.Name x pos'] e pos) (sAsg f (gNm i)) := (ps_set hN hi hx h hs hf).wk fun D σ H ⟨env, z, E, S, hf, k1, k2, k3, k4⟩ =>
  ⟨env, z, _, S, hf, fun v H' x q g r => k1 _ z _ H' q ((S.grow g).set r) (Fr.of_gr g)⟩
theorem ds_own {i : Nat} {x : Str} {pos' : Pos} {fn : FN} (hN : X.N.Nodup) (hi : X.N[i]? = some x) (hx : Loc X.env.scope x) (h : DN X B e fn) (hs : swapsWith e (some (.Name x pos')) pos.line X.env = pure false := by rfl) (hf : X.fn x = true ∨ X.env.scope.names.lookup x = some .local := by first | exact .inl rfl | exact .inr rfl | assumption) :
    DS X B (.Assign [.Name x pos'] e pos) (sOwn i fn) := (ps_set hN hi hx h hs hf).wk fun D σ H ⟨env, z, E, S, hf, k1, k2, k3, k4⟩ =>
  ⟨env, z, _, S, hf, fun p H' vs xs q hp g hp' r => k1 _ _ _ H' q (S.setOwn g hp hp' r) (fr_hide hp g)⟩
/-- target = e, any target -/
theorem ds_asg {pu : Bool} {tg : Expr} {is : List Nat} {g : FG} (h : DE X B e f) (hg : DG X B pu tg is g) (hs : swapsWithSole [tg] e pos.line X.env = pure false := by rfl) (hw : swappedStores [tg] e X.env = pure none := by rfl)
    (h1 : (assignEach [tg] X.env).map (·.2) = [assign tg X.env] := by rfl) : DS X B (.Assign [tg] e pos) (sAsg f g) := by
  obtain ⟨t, p, q⟩ := hg.ex
  refine (ps_asg h p hs hw h1).wk fun D σ H ⟨env, z, E, S, hf, k1, k2, k3, k4⟩ => ⟨env, z, _, S, hf, fun v H' x q1 g1 r1 => ?_⟩
  exact q v x σ H' env z _ _ (S.grow g1) r1 q1 fun σ2 H2 env2 q2 S2 f2 m2 _ _ => k1 env2 z σ2 H2 q2 S2 ((Fr.of_gr g1).trans f2)
theorem ds_par {i j : Nat} {x y : Str} {px py pt : Pos} {kt k2 pt2} (hN : X.N.Nodup) (hi : X.N[i]? = some x) (hj : X.N[j]? = some y) (hij : i ≠ j)
    (hx : X.env.scope.names.lookup x = some .local) (hy : X.env.scope.names.lookup y = some .local) (ha : DE X B a fa) (hb : DE X B b fb)
    (hw : swappedStores [.Tuple [.Name x px, .Name y py] kt pt] (.Tuple [a, b] k2 pt2) X.env = pure (some [x, y]) := by rfl)
    (hs : swapsWithSole [.Tuple [.Name x px, .Name y py] kt pt] (.Tuple [a, b] k2 pt2) pos.line X.env = pure false := by rfl) (hc : X.calm = true := by rfl) 
    (s1 : starEach (a :: [b]) X.env = (false, eval a X.env) :: starEach [b] X.env := by rfl) (s2 : starEach (b :: []) X.env = (false, eval b X.env) :: starEach [] X.env := by rfl) :
    DS X B (.Assign [.Tuple [.Name x px, .Name y py] kt pt] (.Tuple [a, b] k2 pt2) pos) (sPar i j fa fb) :=
  (ps_par hc hN hi hj hij hx hy (pa_cons ha (pa_cons hb pa_nil s2) s1) hw hs).wk fun D σ H ⟨env, z, E, S, hf, k1, k2, k3, k4⟩ =>
    ⟨env, z, _, S, hf, fun v H1 x1 q1 g1 r1 => ⟨env, z, _, S.grow g1, q1, fun w H2 x2 q2 g2 r2 => ⟨v, w, rfl, k1 _ z _ H2 q2 ((((S.grow g1).grow g2).set (r1.mono (sh_gr S.pool g2))).set r2) (Fr.of_gr (g1.trans g2))⟩⟩⟩

/-! ### methods that change a list of the def's own -/
section
variable {i : Nat} {x : Str} {p0 apos cpos : Pos}
theorem own_at {K : PySem.W.Frag} {env : Env} {z : Zn} {σ : L2.St} {H H' : Hp} {i : Nat} {xs : List D} (S : Sim K B env z σ H) (g : Gr K B H H') (e : env[i]? = some (.own xs)) :
    ∃ p vs, σ[i]?.join = some (.ref p) ∧ z p = some (i + 1) ∧ H p = some (.lst vs) ∧ H' p = some (.lst vs) ∧ RpL K (Sh z H') vs xs := by
  obtain ⟨p, vs, h1, h2, h3, h4⟩ := S.sl i _ e
  refine ⟨p, vs, h1, h2, h3, g.keep p _ (fun hp => ?_) h3, h4.mono (sh_gr S.pool g)⟩
  have := S.hot p (S.pz p hp)
  rw [h2] at this
  cases this
theorem ds_app (hN : X.N[i]? = some x) (hv : Vis X.env.scope x) (ha : DE X B a fa) (hd : (x == ("__debug__" : Str)) = false := by decide) (hcd : (x == ("__classdict__" : Str)) = false := by decide)
    (hbase : attributeBase (.Name x p0) "append" X.env (eval (.Name x p0) X.env) = eval (.Name x p0) X.env := by rfl)
    (hfew : ((backTo cpos (starEach (a :: []) X.env)).all (fun x => !x.1) && (backToKw cpos (keywordEach [] X.env)).all (fun x => x.1.isSome)
      && decide ((a :: ([] : List Expr)).length + ([] : List Keyword).length + (if ([] : List Keyword).isEmpty then 0 else 1) < 30)) = true := by rfl)
    (hline : (apos.endLine == cpos.line) = true := by rfl) (hs : starEach (a :: []) X.env = (false, eval a X.env) :: starEach [] X.env := by rfl) (hplain : (backTo cpos (starEach [] X.env)).any (·.1) = false := by rfl)
    (hsw : swapsWith (.Call (.Attribute (.Name x p0) "append" apos) [a] [] cpos) none pos.line X.env = pure false := by rfl) :
    DS X B (.Expr (.Call (.Attribute (.Name x p0) "append" apos) [a] [] cpos) pos) (sApp i fa) := by
  refine (ps_expr (pe_bm PySem.F.plainAttrs_list PySem.F.slot_list_append PySem.F.type_list_append mt_append (pe_var hN hv hd hcd) (pa_cons ha pa_nil hs) hbase hfew hline hs hplain) hsw).wk fun D σ H ⟨env, z, E, S, hf, k1, k2, k3, k4⟩ => ?_
  obtain ⟨xs, e, hf⟩ := mutS_get hf
  obtain ⟨p, vs, h1, h2, h3, _⟩ := own_at S (Gr.refl H) e
  refine ⟨_, get_of_join h1, .inl ⟨rfl, _, .of h3⟩, env, z, _, S, hf, fun v H1 y q g r => ?_⟩
  obtain ⟨p', vs', h1', h2', _, h4', h5'⟩ := own_at S g e
  have ep : p' = p := by rw [h1] at h1'; cases h1'; rfl
  subst ep
  obtain ⟨S2, f2, m2⟩ := (S.grow g).mut (ws := vs' ++ [v]) (ys := xs ++ [y]) h1' h2' h4' (h5'.append (.cons r .nil))
  exact ⟨p', vs', v, rfl, rfl, h4', by rw [h5'.length]; exact q.1, k1 _ z σ _ q.2 S2 ((Fr.of_gr g).trans f2)⟩
theorem ds_ext (hN : X.N[i]? = some x) (hv : Vis X.env.scope x) (ha : DR X B a fa) (hd : (x == ("__debug__" : Str)) = false := by decide) (hcd : (x == ("__classdict__" : Str)) = false := by decide)
    (hbase : attributeBase (.Name x p0) "extend" X.env (eval (.Name x p0) X.env) = eval (.Name x p0) X.env := by rfl)
    (hfew : ((backTo cpos (starEach (a :: []) X.env)).all (fun x => !x.1) && (backToKw cpos (keywordEach [] X.env)).all (fun x => x.1.isSome)
      && decide ((a :: ([] : List Expr)).length + ([] : List Keyword).length + (if ([] : List Keyword).isEmpty then 0 else 1) < 30)) = true := by rfl)
    (hline : (apos.endLine == cpos.line) = true := by rfl) (hs : starEach (a :: []) X.env = (false, eval a X.env) :: starEach [] X.env := by rfl) (hplain : (backTo cpos (starEach [] X.env)).any (·.1) = false := by rfl)
    (hsw : swapsWith (.Call (.Attribute (.Name x p0) "extend" apos) [a] [] cpos) none pos.line X.env = pure false := by rfl) :
    DS X B (.Expr (.Call (.Attribute (.Name x p0) "extend" apos) [a] [] cpos) pos) (sExt i fa) := by
  refine (ps_expr (pe_bm PySem.F.plainAttrs_list PySem.F.slot_list_extend PySem.F.type_list_extend mt_extend (pe_var hN hv hd hcd) (pa_cons ha pa_nil hs) hbase hfew hline hs hplain) hsw).wk fun D σ H ⟨env, z, E, S, hf, k1, k2, k3, k4⟩ => ?_
  obtain ⟨xs, e, hf⟩ := mutS_get hf
  obtain ⟨p, vs, h1, h2, h3, _⟩ := own_at S (Gr.refl H) e
  refine ⟨_, get_of_join h1, .inl ⟨rfl, _, .of h3⟩, env, z, _, S, hf, fun v H1 y q g r => ?_⟩
  obtain ⟨p', vs', h1', h2', _, h4', h5'⟩ := own_at S g e
  have ep : p' = p := by rw [h1] at h1'; cases h1'; rfl
  subst ep
  cases y <;> try exact q.elim
  case list ys =>
    obtain ⟨b, ws, rfl, hb, rb⟩ := r.list
    obtain ⟨S2, f2, m2⟩ := (S.grow g).mut (ws := vs' ++ ws) (ys := xs ++ ys) h1' h2' h4' (h5'.append rb)
    exact ⟨p', b, vs', ws, rfl, rfl, h4', hb, by rw [h5'.length, rb.length]; exact q.1, k1 _ z σ _ q.2 S2 ((Fr.of_gr g).trans f2)⟩
theorem ds_ins (hN : X.N[i]? = some x) (hv : Vis X.env.scope x) (ha : DE X B a fa) (hb : DE X B b fb) (hd : (x == ("__debug__" : Str)) = false := by decide) (hcd : (x == ("__classdict__" : Str)) = false := by decide)
    (hbase : attributeBase (.Name x p0) "insert" X.env (eval (.Name x p0) X.env) = eval (.Name x p0) X.env := by rfl)
    (hfew : ((backTo cpos (starEach (a :: [b]) X.env)).all (fun x => !x.1) && (backToKw cpos (keywordEach [] X.env)).all (fun x => x.1.isSome)
      && decide ((a :: ([b] : List Expr)).length + ([] : List Keyword).length + (if ([] : List Keyword).isEmpty then 0 else 1) < 30)) = true := by rfl)
    (hline : (apos.endLine == cpos.line) = true := by rfl) (hs : starEach (a :: [b]) X.env = (false, eval a X.env) :: starEach [b] X.env := by rfl) (hs2 : starEach (b :: []) X.env = (false, eval b X.env) :: starEach [] X.env := by rfl) (hplain : (backTo cpos (starEach [b] X.env)).any (·.1) = false := by rfl)
    (hsw : swapsWith (.Call (.Attribute (.Name x p0) "insert" apos) [a, b] [] cpos) none pos.line X.env = pure false := by rfl) :
    DS X B (.Expr (.Call (.Attribute (.Name x p0) "insert" apos) [a, b] [] cpos) pos) (sIns i fa fb) := by
  refine (ps_expr (pe_bm PySem.F.plainAttrs_list PySem.F.slot_list_insert PySem.F.type_list_insert mt_insert (pe_var hN hv hd hcd) (pa_cons ha (pa_cons hb pa_nil hs2) hs) hbase hfew hline hs hplain) hsw).wk fun D σ H ⟨env, z, E, S, hf, k1, k2, k3, k4⟩ => ?_
  obtain ⟨xs, e, hf⟩ := mutS_get hf
  obtain ⟨p, vs, h1, h2, h3, _⟩ := own_at S (Gr.refl H) e
  refine ⟨_, get_of_join h1, .inl ⟨rfl, _, .of h3⟩, env, z, _, S, hf, fun kv H1 kd q1 g1 r1 => ⟨env, z, _, S.grow g1, q1, fun v H2 y q g2 r => ?_⟩⟩
  have g := g1.trans g2
  obtain ⟨p', vs', h1', h2', _, h4', h5'⟩ := own_at S g e
  have ep : p' = p := by rw [h1] at h1'; cases h1'; rfl
  subst ep
  cases kd <;> try exact q.elim
  case int n =>
    cases r1
    obtain ⟨q0, q0', q1, q2⟩ := q
    obtain ⟨S2, f2, m2⟩ := (S.grow g).mut (ws := vs'.take n.toNat ++ [v] ++ vs'.drop n.toNat) (ys := xs.take n.toNat ++ [y] ++ xs.drop n.toNat) h1' h2' h4' (((h5'.take _).append (.cons r .nil)).append (h5'.drop _))
    exact ⟨p', vs', n, v, rfl, rfl, h4', by rw [h5'.length]; exact q1, q0, by omega, k1 _ z σ _ q2 S2 ((Fr.of_gr g).trans f2)⟩
end
end
end DL

set_option Elab.async false
set_option linter.all false
set_option maxRecDepth 100000
set_option maxHeartbeats 1000000
/-! DLF: the D-layer's rules: what loops walk, for, while, comprehensions, defs. -/
namespace DL
open PySem PySem.Spec PyProof.Rows L2
section
variable {X : Cx} {B : Bs} {a b c : Expr} {fa fb fc : FE} {ta tb : FT} {pos : Pos} {rest : List Expr}

/-- the iterator J walks the data xs, while what is not the def's own stands -/
structure ItD (K : PySem.W.Frag) (B : Bs) (z : Zn) (H : Hp) (J : It) (xs : List D) : Prop where
  go : ∀ z' H' i x, Fr B z H z' H' → Zk B z' H' → xs[i]? = some x → J.go i H' ∧ ∀ v H'', J.yld i H' v H'' → Sub H' H'' ∧ Rp K (Sh z' H'') v x
  stop : ∀ z' H', Fr B z H z' H' → J.stop xs.length H'
structure DI (X : Cx) (B : Bs) (tg iter : Expr) (f : FI) : Prop where
  ex : ∃ w, PI X tg iter w ∧ ∀ σ H env z Qd (R : It → Hp → Prop), Sim X.K B env z σ H → f env Qd → (∀ J H' xs, Qd xs → Gr X.K B H H' → ItD X.K B z H' J xs → R J H') → w σ H R

/-- a list that stands, told by a datum: shared, or the def's own and left alone -/
theorem rp_place {K : PySem.W.Frag} {env : Env} {z : Zn} {σ : L2.St} {H : Hp} {v : V} {xs : List D} (S : Sim K B env z σ H) (h : Rp K (Sh z H) v (.list xs)) :
    ∃ a vs, v = .ref a ∧ z a = none ∧ ¬ B.isP a ∧ H a = some (.lst vs) ∧ RpL K (Sh z H) vs xs := by
  cases h with
  | lst h t =>
    rename_i a vs
    have hz : z a = none := by
      unfold Sh at h
      split at h
      · assumption
      · cases h
    exact ⟨_, _, rfl, hz, fun q => S.pool _ q hz, Sh.sub z H _ _ h, t⟩
theorem rpl_fr {K : PySem.W.Frag} {z z' : Zn} {H H' : Hp} {vs : List V} {xs : List D} (hp : ∀ a, B.isP a → z a ≠ none) (f : Fr B z H z' H') (r : RpL K (Sh z H) vs xs) : RpL K (Sh z' H') vs xs := r.mono (f.sub hp)
theorem sq_one {K : PySem.W.Frag} {H : Hp} {a : Addr} {vs : List V} {x : V} {i : Nat} (h : H a = some (.lst vs)) (q : ∀ xs, SqL K H a xs → xs[i]? = some x) : vs[i]? = some x := q vs (.of h)
/-- over a list at a name or made on the way (it may not be changed in the loop) -/
theorem di_list {tg : Expr} (h : DE X B a fa) : DI X B tg a (fun env Q => fa env fun x => match x with | .list xs => Q xs | _ => False) := by
  refine ⟨_, pi_list h, fun σ H env z Qd R S hf k => ⟨env, z, _, S, hf, fun v H1 x q g r => ?_⟩⟩
  cases x <;> try exact q.elim
  case list xs =>
    have S1 := S.grow g
    obtain ⟨p, vs, rfl, hz, np, hp, rr⟩ := rp_place S1 r
    refine ⟨p, rfl, ⟨vs, .of hp⟩, k _ H1 xs q g ⟨fun z' H' i x F Z hx => ?_, fun z' H' F => ?_⟩⟩
    · obtain ⟨e1, e2⟩ := F.keep p _ np (fun j => by rw [hz]; exact fun q => nomatch q) hp
      obtain ⟨u, hu, ru⟩ := (rpl_fr S1.pool F rr).get hx
      refine ⟨⟨vs, u, .of e1, hu⟩, fun v H'' y => ?_⟩
      obtain ⟨rfl, y⟩ := y
      have := sq_one e1 y
      rw [hu] at this
      cases this
      exact ⟨Sub.refl _, ru⟩
    · obtain ⟨e1, e2⟩ := F.keep p _ np (fun j => by rw [hz]; exact fun q => nomatch q) hp
      exact ⟨vs, .of e1, Nat.le_of_eq rr.length⟩
theorem st_fr {K : PySem.W.Frag} {z z' : Zn} {H H' : Hp} {p : Addr} {vs : List V} (hp : ∀ a, B.isP a → z a ≠ none) (F : Fr B z H z' H') (h : SqT K (Sh z H) p vs) : SqT K (Sh z' H') p vs := (F.sub hp).st h
theorem di_tup {tg : Expr} (h : DE X B a fa) : DI X B tg a (fun env Q => fa env fun x => match x with | .tuple xs => Q xs | _ => False) := by
  refine ⟨_, pi_tup h, fun σ H env z Qd R S hf k => ⟨env, z, _, S, hf, fun v H1 x q g r => ?_⟩⟩
  cases x <;> try exact q.elim
  case tuple xs =>
    have S1 := S.grow g
    cases r with
    | tup hs rr =>
      rename_i p vs
      refine ⟨p, rfl, ⟨vs, (Sh.sub _ _).st hs⟩, k _ H1 xs q g ⟨fun z' H' i x F Z hx => ?_, fun z' H' F => ?_⟩⟩
      · have e1 : SqT X.K H' p vs := (Sh.sub _ _).st (st_fr S1.pool F hs)
        obtain ⟨u, hu, ru⟩ := (rpl_fr S1.pool F rr).get hx
        refine ⟨⟨vs, u, e1, hu⟩, fun v H'' y => ?_⟩
        obtain ⟨rfl, y⟩ := y
        have := y vs e1
        rw [hu] at this
        cases this
        exact ⟨Sub.refl _, ru⟩
      · have e1 : SqT X.K H' p vs := (Sh.sub _ _).st (st_fr S1.pool F hs)
        exact ⟨vs, e1, Nat.le_of_eq rr.length⟩
theorem rng_get {lo hi : Int} {i : Nat} {x : D} (h : (rngD lo hi)[i]? = some x) : i < (hi - lo).toNat ∧ x = .int (lo + (i : Nat)) := by
  unfold rngD at h
  rw [List.getElem?_map] at h
  cases e : (List.range (hi - lo).toNat)[i]? with
  | none => rw [e] at h; cases h
  | some k =>
    rw [e] at h
    obtain ⟨h1, h2⟩ := List.getElem?_eq_some_iff.mp e
    rw [List.length_range] at h1
    rw [List.getElem_range] at h2
    subst h2
    exact ⟨h1, (Option.some.inj h).symm⟩
theorem rng_len {lo hi : Int} : (rngD lo hi).length = (hi - lo).toNat := by unfold rngD; rw [List.length_map, List.length_range]
theorem itd_rng {K : PySem.W.Frag} {z : Zn} {H : Hp} {lo hi : Int} : ItD K B z H (Itr lo (hi - lo).toNat) (rngD lo hi) := by
  refine ⟨fun z' H' i x F Z hx => ?_, fun z' H' F => ?_⟩
  · obtain ⟨h1, rfl⟩ := rng_get hx
    refine ⟨h1, fun v H'' y => ?_⟩
    obtain ⟨rfl, rfl⟩ := y
    exact ⟨Sub.refl _, .int _⟩
  · rw [rng_len]
    exact Nat.le_refl _
theorem di_rng1 {tg : Expr} {p0 : Pos} (h : DE X B a fa) (hm : X.mg "range" = none) (hg : Gl X "range" := by rfl) (hs : starEach [a] X.env = [(false, eval a X.env)] := by rfl) : DI X B tg (.Call (.Name "range" p0) [a] [] pos) (iRng (fsCons fa fsNil)) := by
  refine ⟨_, pi_range1 hg hm (pa_cons h pa_nil hs) hs, fun σ H env z Qd R S hf k => ⟨env, z, _, S, hf, fun v H1 x q g r => ?_⟩⟩
  have q' : match [x] with
    | [.int j] => -(2 ^ 62) ≤ j ∧ j < 2 ^ 62 ∧ Qd (rngD 0 j)
    | [.int i, .int j] => -(2 ^ 62) ≤ i ∧ i < 2 ^ 62 ∧ -(2 ^ 62) ≤ j ∧ j < 2 ^ 62 ∧ Qd (rngD i j)
    | _ => False := q
  cases x <;> try exact q'.elim
  case int j =>
    cases r
    obtain ⟨q1, q2, q3⟩ := q'
    refine ⟨j, rfl, q1, q2, k _ H1 _ q3 g ?_⟩
    have := itd_rng (K := X.K) (B := B) (z := z) (H := H1) (lo := 0) (hi := j)
    rw [Int.sub_zero] at this
    exact this
theorem di_rng2 {tg : Expr} {p0 : Pos} (ha : DE X B a fa) (hb : DE X B b fb) (hm : X.mg "range" = none) (hg : Gl X "range" := by rfl) (hs : starEach [a, b] X.env = [(false, eval a X.env), (false, eval b X.env)] := by rfl) (hs2 : starEach [b] X.env = [(false, eval b X.env)] := by rfl) :
    DI X B tg (.Call (.Name "range" p0) [a, b] [] pos) (iRng (fsCons fa (fsCons fb fsNil))) := by
  refine ⟨_, pi_range2 hg hm (pa_cons ha (pa_cons hb pa_nil hs2) (by rw [hs, hs2])) hs hs2, fun σ H env z Qd R S hf k => ⟨env, z, _, S, hf, fun v H1 x q g r => ⟨env, z, _, S.grow g, q, fun v2 H2 y q g2 r2 => ?_⟩⟩⟩
  have q' : match [x, y] with
    | [.int j] => -(2 ^ 62) ≤ j ∧ j < 2 ^ 62 ∧ Qd (rngD 0 j)
    | [.int i, .int j] => -(2 ^ 62) ≤ i ∧ i < 2 ^ 62 ∧ -(2 ^ 62) ≤ j ∧ j < 2 ^ 62 ∧ Qd (rngD i j)
    | _ => False := q
  cases x <;> cases y <;> try exact q'.elim
  case int.int i0 j0 =>
    cases r; cases r2
    obtain ⟨q1, q2, q3, q4, q5⟩ := q'
    exact ⟨_, _, rfl, ⟨q1, q2, q3, q4⟩, k _ H2 _ q5 (g.trans g2) itd_rng⟩
theorem enum_get : ∀ {xs : List D} {k i : Nat} {x : D}, (enumD k xs)[i]? = some x → ∃ y, xs[i]? = some y ∧ x = .tuple [.int ((k + i : Nat) : Int), y]
  | [], _, _, _, h => by simp [enumD] at h
  | y :: ys, k, 0, x, h => ⟨y, rfl, by simpa [enumD] using h.symm⟩
  | y :: ys, k, i + 1, x, h => by
    have h' : (enumD (k + 1) ys)[i]? = some x := by simpa [enumD] using h
    obtain ⟨w, h1, h2⟩ := enum_get h'
    refine ⟨w, by simpa using h1, ?_⟩
    rw [h2, show k + 1 + i = k + (i + 1) by omega]
theorem enum_len : ∀ {xs : List D} {k : Nat}, (enumD k xs).length = xs.length
  | [], _ => rfl
  | _ :: ys, k => by rw [enumD, List.length_cons, List.length_cons, enum_len]
theorem di_enum {elts : List Expr} {kk : Nat} {tpos p0 : Pos} (h : DE X B a fa) (hm : X.mg "enumerate" = none) (hg : Gl X "enumerate" := by rfl) (hs : starEach [a] X.env = [(false, eval a X.env)] := by rfl) :
    DI X B (.Tuple elts kk tpos) (.Call (.Name "enumerate" p0) [a] [] pos) (iEnum fa) := by
  refine ⟨_, pi_enum hg hm (pa_cons h pa_nil hs) hs, fun σ H env z Qd R S hf k => ⟨env, z, _, S, hf, fun v H1 x q g r => ?_⟩⟩
  cases x <;> try exact q.elim
  case list xs =>
    have S1 := S.grow g
    obtain ⟨p, vs, rfl, hz, np, hp, rr⟩ := rp_place S1 r
    refine ⟨p, vs, rfl, .of hp, k _ H1 _ q g ⟨fun z' H' i x F Z hx => ?_, fun z' H' F => ?_⟩⟩
    · obtain ⟨e1, e2⟩ := F.keep p _ np (fun j => by rw [hz]; exact fun q => nomatch q) hp
      obtain ⟨y, hy, rfl⟩ := enum_get hx
      obtain ⟨u, hu, ru⟩ := (rpl_fr S1.pool F rr).get hy
      refine ⟨⟨vs, u, .of e1, hu⟩, fun v H'' w => ?_⟩
      obtain ⟨T, x', rfl, nT, rfl, w⟩ := w
      have := sq_one e1 w
      rw [hu] at this
      cases this
      refine ⟨sub_upd nT, rp_tuple Z nT (.cons ?_ (.cons ru .nil))⟩
      rw [Nat.zero_add]
      exact .int _
    · obtain ⟨e1, e2⟩ := F.keep p _ np (fun j => by rw [hz]; exact fun q => nomatch q) hp
      rw [enum_len]
      exact ⟨vs, .of e1, Nat.le_of_eq rr.length⟩

/-! ### for -/
theorem drop_cons {α : Type} {xs : List α} {i : Nat} (h : i < xs.length) : xs.drop i = xs[i] :: xs.drop (i + 1) := List.drop_eq_getElem_cons h
theorem ds_for {pu : Bool} {tg iter : Expr} {body : List Stmt} {fi : FI} {is : List Nat} {g : FG} {fs : FS} (hi : DI X B tg iter fi) (hg : DG X B pu tg is g) (hb : DSs X B body fs) (hp : PassesOwn (model X.prog X.w) X.A X.env X.xe := by exact PassesOwn.never) (hc : X.calm = true := by rfl)
    (hs : ∀ x, foldedSetIterable iter X.env x = pure x := by intro _; rfl) : DS X B (.For tg iter body [] pos) (sFor fi g fs) := by
  obtain ⟨w, p1, q1⟩ := hi.ex
  obtain ⟨t, p2, q2⟩ := hg.ex
  refine (ps_for hp hc p1 p2 hb hs).wk fun D σ H ⟨env, z, E, S, hf, k1, k2, k3, k4⟩ => ?_
  refine q1 σ H env z _ _ S hf fun J H1 xs q g1 it => ?_
  have S1 := S.grow g1
  have f1 : Fr B z H z H1 := Fr.of_gr g1
  refine ⟨fun i m σ H => m = xs.length - i ∧ i ≤ xs.length ∧ ∃ env z', Sim X.K B env z' σ H ∧ Fr B z H1 z' H ∧ loopL g fs E (xs.drop i) env, ⟨xs.length, by simp, Nat.zero_le _, env, z, S1, Fr.refl, q⟩, ?_⟩
  rintro i m σ' H' ⟨rfl, hi, env', z', S', F', L⟩
  by_cases hlt : i < xs.length
  · obtain ⟨go, yl⟩ := it.go z' H' i xs[i] F' S'.zk (List.getElem?_eq_getElem hlt)
    refine .inr ⟨go, fun σ2 H2 => xs.length - (i + 1) = xs.length - (i + 1) ∧ i + 1 ≤ xs.length ∧ ∃ env z', Sim X.K B env z' σ2 H2 ∧ Fr B z H1 z' H2 ∧ loopL g fs E (xs.drop (i + 1)) env, fun σ2 H2 h => ⟨xs.length - (i + 1), by omega, h⟩, fun v H2 y => ?_⟩
    obtain ⟨sub, r⟩ := yl v H2 y
    have g2 : Gr X.K B H' H2 := .of_sub sub
    rw [drop_cons hlt] at L
    refine q2 v xs[i] σ' H2 env' z' _ _ (S'.grow g2) r L fun σ3 H3 env3 L3 S3 F3 m3 _ _ => ?_
    have F4 : Fr B z H1 z' H3 := (F'.trans (Fr.of_gr g2)).trans F3
    exact ⟨env3, z', _, S3, L3, fun e2 z2 s2 H4 h4 S4 F5 => ⟨rfl, hlt, e2, z2, S4, F4.trans F5, h4⟩, k2, fun e2 z2 s2 H4 h4 S4 F5 => k1 e2 z2 s2 H4 h4 S4 ((f1.trans F4).trans F5), fun e2 z2 s2 H4 h4 S4 F5 => ⟨rfl, hlt, e2, z2, S4, F4.trans F5, h4⟩⟩
  · have e : i = xs.length := by omega
    subst e
    rw [List.drop_length] at L
    exact .inl ⟨it.stop z' H' F', k1 env' z' σ' H' L S' (f1.trans F')⟩
/-! ### while -/
theorem ds_while {body : List Stmt} {fs : FS} (hc : DT X B c ta) (hb : DSs X B body fs) (hp : PassesOwn (model X.prog X.w) X.A X.env X.xe := by exact PassesOwn.never) : DS X B (.While c body [] pos) (sWhile ta fs) := by
  refine (ps_while hp hc hb).wk fun D σ H ⟨env, z, E, S, hf, k1, k2, k3, k4⟩ => ?_
  obtain ⟨I, ⟨m0, h0⟩, turn⟩ := hf
  refine ⟨fun m σ' H' => ∃ env' z', Sim X.K B env' z' σ' H' ∧ Fr B z H z' H' ∧ I m env', ⟨m0, env, z, S, Fr.refl, h0⟩, ?_⟩
  rintro m σ' H' ⟨env', z', S', F', hI⟩
  refine ⟨env', z', _, S', turn m env' hI, fun b H2 q g => ?_⟩
  have F2 : Fr B z H z' H2 := F'.trans (Fr.of_gr g)
  cases b with
  | true =>
    rw [if_pos rfl] at q
    show ∃ N : L2.St → Hp → Prop, _ ∧ _
    exact ⟨_, fun _ _ h => h, env', z', _, S'.grow g, q, fun e2 z2 s2 H4 ⟨m', hm, h4⟩ S4 F5 => ⟨m', hm, e2, z2, S4, F2.trans F5, h4⟩, k2, fun e2 z2 s2 H4 h4 S4 F5 => k1 e2 z2 s2 H4 h4 S4 (F2.trans F5), fun e2 z2 s2 H4 ⟨m', hm, h4⟩ S4 F5 => ⟨m', hm, e2, z2, S4, F2.trans F5, h4⟩⟩
  | false =>
    rw [if_neg (by decide)] at q
    show D.nx σ' H2
    exact k1 env' z' σ' H2 q (S'.grow g) F2

/-! ### comprehensions -/
def DTs (X : Cx) (B : Bs) (ifs : List Expr) (f : FT) : Prop := PTs X ifs (liftT X.K B f)
theorem dts_nil : DTs X B [] fYes := ⟨fun pins s σ H Q I ⟨env, z, Qd, S, hf, k⟩ => pts_nil.run pins s σ H Q I (k true H hf (Gr.refl H))⟩
theorem dts_one (h : DT X B c ta) : DTs X B [c] ta := pts_one h
theorem wipe_wipe (σ : L2.St) (vs : List Nat) : L2.wipe (L2.wipe σ vs) vs = L2.wipe σ vs := by
  have key : ∀ (us : List Nat) (τ : L2.St), (∀ i ∈ us, τ[i]? = some none ∨ τ.length ≤ i) → L2.wipe τ us = τ := fun us => by
    induction us with
    | nil => intro τ _; rfl
    | cons u us ih =>
      intro τ h
      unfold L2.wipe
      rw [ih τ fun i hi => h i (List.mem_cons_of_mem _ hi)]
      rcases h u List.mem_cons_self with q | q
      · obtain ⟨hl, e⟩ := List.getElem?_eq_some_iff.mp q
        apply List.ext_getElem
        · rw [List.length_set]
        · intro n h1 h2
          by_cases hn : u = n
          · subst hn
            rw [List.getElem_set_self, e]
          · rw [List.getElem_set_ne hn]
      · exact List.set_eq_of_length_le q
  refine key vs _ fun i hi => ?_
  by_cases hl : i < (L2.wipe σ vs).length
  · left
    cases e : (L2.wipe σ vs)[i]? with
    | none => rw [List.getElem?_eq_none_iff] at e; omega
    | some o =>
      cases o with
      | none => rfl
      | some x => exact absurd hi (wipe_some e).2
  · exact .inr (by omega)
theorem Gr.upd {K : PySem.W.Frag} {H H' : Hp} {p : Addr} {o : HO} (g : Gr K B H H') (h : H p = none) : Gr K B H (upd H' p o) := ⟨fun a u n e => by
    rw [upd_ne (ne_of_none e h)]
    exact g.keep a u n e, fun q e hq => by
    obtain ⟨n1, s1, a, b, c, e1⟩ := hq
    obtain ⟨_, _, a', b', c', e2⟩ := g.pool q e ⟨n1, s1, a, b, c, e1⟩
    refine ⟨n1, ?_, a', b', c', ?_⟩
    · rcases s1 with ⟨n0, s1⟩ | s1
      · have nsa : ¬ B.isP q.sa := fun ⟨q', e', e3⟩ => by
          rw [e] at e'
          cases e'
          exact n0 e3
        refine .inl ⟨n0, ?_⟩
        rcases s1 with s1 | ⟨ob, s1⟩
        · exact .inl (by rw [upd_ne (ne_of_none s1 h)]; exact g.keep _ _ nsa s1)
        · exact .inr ⟨ob, by rw [upd_ne (ne_of_none s1 h)]; exact g.keep _ _ nsa s1⟩
      · exact .inr s1
    · rw [upd_ne (ne_of_none e1 h)]
      exact e2⟩
theorem hide_sub {z : Zn} {H : Hp} {p : Addr} {o : HO} {k : Nat} : Sub (Sh (DL.hide z p k) H) (Sh (DL.hide z p k) (upd H p o)) := Sh.mono fun a u hz e => by
  rw [upd_ne]
  · exact e
  · intro q
    unfold DL.hide at hz
    rw [if_pos q] at hz
    cases hz
theorem lc_wk {fi : FI} {is own : List Nat} {g : FG} {w : TI} {t : TG}
    (hw : ∀ σ H env z Qd (R : It → Hp → Prop), Sim X.K B env z σ H → fi env Qd → (∀ J H' xs, Qd xs → Gr X.K B H H' → ItD X.K B z H' J xs → R J H') → w σ H R)
    (ht : ∀ v x σ H env z Qd (Q : L2.St → Hp → Prop), Sim X.K B env z σ H → Rp X.K (Sh z H) v x → g x env Qd → (∀ σ' H' env', Qd env' → Sim X.K B env' z σ' H' → Fr B z H z H' → Sub (Sh z H) (Sh z H') → (true = true → H' = H) → (∀ vs, (∀ i ∈ is, i ∈ vs) → L2.wipe σ' vs = L2.wipe σ vs) → Q σ' H') → t v σ H Q)
    (his : ∀ i ∈ is, i ∈ own) (σ : L2.St) (H : Hp) (Q : VK) (h : liftN X.K B (nLc own fi g ta fa) σ H Q) : tLc w t (liftT X.K B ta) (liftE X.K B fa) own σ H Q := by
  obtain ⟨env, z, Qd, S, hf, k⟩ := h
  refine hw σ H env z _ _ S hf fun J H1 xs q g1 it => fun D hD => ?_
  have S1 := S.grow g1
  have hHD := fresh_back S g1 hD
  have nP : ¬ B.isP D := fun hp => S1.live D (S1.pool D hp) hD
  let W : Nat → Hp → Prop := fun i H' => ∃ accV acc, H' D = some (.lst accV) ∧ RpL X.K (Sh (hide z D 0) H') accV acc ∧ Gr X.K B H1 H' ∧ compL g ta fa (wipeE env own) (xs.drop i) acc Qd
  refine ⟨fun i m H' => m = xs.length - i ∧ i ≤ xs.length ∧ W i H', ⟨xs.length, by simp, Nat.zero_le _, [], [], upd_same, .nil, Gr.new hD, q⟩, ?_⟩
  rintro i m H' ⟨rfl, hi, accV, acc, e1, r1, gr1, L⟩
  have S2 : Sim X.K B (wipeE env own) (hide z D 0) (L2.wipe σ own) H' := (S1.hide gr1 hD (by rw [e1]; exact fun q => nomatch q) 0).wipe own
  have F2 : Fr B z H1 (hide z D 0) H' := fr_hide hD gr1
  by_cases hlt : i < xs.length
  · obtain ⟨go, yl⟩ := it.go (hide z D 0) H' i xs[i] F2 S2.zk (List.getElem?_eq_getElem hlt)
    refine .inr ⟨go, fun H3 => xs.length - (i + 1) = xs.length - (i + 1) ∧ i + 1 ≤ xs.length ∧ W (i + 1) H3, fun H3 h => ⟨_, by omega, h⟩, fun v H2 y => ?_⟩
    obtain ⟨sub, r⟩ := yl v H2 y
    have g2 : Gr X.K B H' H2 := .of_sub sub
    rw [drop_cons hlt] at L
    have zD : ∀ j, hide z D 0 D ≠ some (j + 1) := fun j => by
      unfold hide
      rw [if_pos rfl]
      exact fun q => nomatch (Option.some.inj q)
    have kp : ∀ {a : Addr} {o : HO} {H3 : Hp}, Fr B (hide z D 0) H2 (hide z D 0) H3 → H2 a = some o → ¬ B.isP a → (∀ j, hide z D 0 a ≠ some (j + 1)) → H3 a = some o := fun f e n hj => (f.keep _ _ n hj e).1
    refine ht v xs[i] (L2.wipe σ own) H2 _ _ _ _ (S2.grow g2) r L fun σ3 H3 env3 L3 S3 F3 m3 p3 w3 => ⟨?_, ?_⟩
    · rw [w3 own his, wipe_wipe]
    -- what was tracked at H1 stands at H3
    have g3 : Gr X.K B H1 H3 := by
      rw [p3 rfl]
      exact gr1.trans g2
    refine ⟨env3, _, _, S3, L3, fun b H4 q4 g4 => ?_⟩
    have S4 := S3.grow g4
    have e4 : H4 D = some (.lst accV) := g4.keep D _ nP (kp F3 (sub _ _ e1) nP zD)
    have r4 : RpL X.K (Sh (hide z D 0) H4) accV acc := ((r1.mono (sh_gr S2.pool g2)).mono m3).mono (sh_gr S3.pool g4)
    cases b with
    | true =>
      rw [if_pos rfl] at q4
      show liftE X.K B fa σ3 H4 _
      refine ⟨env3, _, _, S4, q4, fun y H5 d q5 g5 r5 => ?_⟩
      obtain ⟨hz, q5⟩ := q5
      have e5 : H5 D = some (.lst accV) := g5.keep D _ nP e4
      have r45 : RpL X.K (Sh (hide z D 0) H5) accV acc := r4.mono (sh_gr S4.pool g5)
      refine ⟨accV, e5, by rw [r4.length]; exact hz, rfl, hlt, accV ++ [y], acc ++ [d], upd_same, (r45.append (.cons r5 .nil)).mono hide_sub, ((g3.trans g4).trans g5).upd hD, q5⟩
    | false =>
      rw [if_neg (by decide)] at q4
      show _ ∧ _ ∧ _
      exact ⟨rfl, hlt, accV, acc, e4, r4, g3.trans g4, q4⟩
  · have e : i = xs.length := by omega
    subst e
    rw [List.drop_length] at L
    refine .inl ⟨it.stop _ H' F2, k D H' accV acc L hHD (g1.trans gr1) e1 r1⟩
end
end DL

set_option Elab.async false
set_option linter.all false
set_option maxRecDepth 100000
set_option maxHeartbeats 1000000
/-! DLG: the D-layer's rules: comprehensions as values, defs, built-in calls. -/
namespace DL
open PySem PySem.Spec PyProof.Rows L2
section
variable {X : Cx} {B : Bs} {a b c : Expr} {fa fb fc : FE} {ta tb : FT} {pos : Pos} {rest : List Expr}

def liftG (K : PySem.W.Frag) (B : Bs) (pu : Bool) (is : List Nat) (g : FG) : TG := fun v σ H Q => ∃ env z Qd x, Sim K B env z σ H ∧ Rp K (Sh z H) v x ∧ g x env Qd ∧
  (∀ σ' H' env', Qd env' → Sim K B env' z σ' H' → Fr B z H z H' → Sub (Sh z H) (Sh z H') → (pu = true → H' = H) → (∀ vs, (∀ i ∈ is, i ∈ vs) → L2.wipe σ' vs = L2.wipe σ vs) → Q σ' H')
theorem DG.pg {pu : Bool} {tg : Expr} {is : List Nat} {g : FG} (h : DG X B pu tg is g) : PG X tg (liftG X.K B pu is g) := by
  obtain ⟨t, p, q⟩ := h.ex
  exact ⟨fun pins s σ H v u Q I r ⟨env, z, Qd, x, S, rr, hg, k⟩ => p.run pins s σ H v u Q I r (q v x σ H env z Qd Q S rr hg k)⟩
def liftI (K : PySem.W.Frag) (B : Bs) (f : FI) : TI := fun σ H R => ∃ env z Qd, Sim K B env z σ H ∧ f env Qd ∧ ∀ J H' xs, Qd xs → Gr K B H H' → ItD K B z H' J xs → R J H'
theorem DI.pi {tg iter : Expr} {f : FI} (h : DI X B tg iter f) : PI X tg iter (liftI X.K B f) := by
  obtain ⟨t, p, q⟩ := h.ex
  exact ⟨fun pins s σ H R I ⟨env, z, Qd, S, hf, k⟩ => p.run pins s σ H R I (q σ H env z Qd R S hf k)⟩
theorem lc_to {fi : FI} {is own : List Nat} {g : FG} (his : ∀ i ∈ is, i ∈ own) (σ : L2.St) (H : Hp) (Q : VK) (h : liftN X.K B (nLc own fi g ta fa) σ H Q) :
    tLc (liftI X.K B fi) (liftG X.K B true is g) (liftT X.K B ta) (liftE X.K B fa) own σ H Q :=
  lc_wk (X := X) (fun σ H env z Qd R S hf k => ⟨env, z, Qd, S, hf, k⟩) (fun v x σ H env z Qd Q S r hg k => ⟨env, z, Qd, x, S, r, hg, k⟩) his σ H Q h
section
variable {elt tg iter : Expr} {ifs : List Expr} {scope : Scope} {own : List (Str × Nat)} {fi : FI} {is : List Nat} {g : FG}
theorem dn_lc (hN : X.N.Nodup) (hi : DI X B tg iter fi) (ok : BlkOk X.N X.env.scope scope own)
    (hg : ∀ (s : Shared) (H : Hp) (C : Addr) (cl : List (Str × Addr)) (fp : List Addr), DG (X.blk s H scope (compEnvC scope cl C X.env) fp) B true tg is g) (ht : ∀ (s : Shared) (H : Hp) (C : Addr) (cl : List (Str × Addr)) (fp : List Addr), DTs (X.blk s H scope (compEnvC scope cl C X.env) fp) B ifs ta)
    (he : ∀ (s : Shared) (H : Hp) (C : Addr) (cl : List (Str × Addr)) (fp : List Addr), DE (X.blk s H scope (compEnvC scope cl C X.env) fp) B elt fa) (his : ∀ i ∈ is, i ∈ own.map (·.2) := by decide) (hc : X.calm = true := by rfl) (hs : ∀ x, foldedSetIterable iter X.env x = pure x := by intro _; rfl) :
    DN X B (.ListComp elt [⟨tg, iter, ifs, 0⟩] scope pos) (nLc (own.map (·.2)) fi g ta fa) :=
  (pe_lc (tt := liftT X.K B ta) (te := liftE X.K B fa) hc hN hi.pi ok (fun s H C cl fp => (hg s H C cl fp).pg) ht he hs).wk fun σ H Q h => lc_to his σ H Q h
theorem ds_ownLc {i : Nat} {y : Str} {py spos : Pos} (hN : X.N.Nodup) (hy : X.N[i]? = some y) (hyl : X.env.scope.names.lookup y = some .local)
    (hsw : swapsWith (.ListComp elt [⟨tg, iter, ifs, 0⟩] scope pos) (some (.Name y py)) spos.line X.env = pure true) (hi : DI X B tg iter fi) (ok : BlkOk X.N X.env.scope scope own)
    (hg : ∀ (s : Shared) (H : Hp) (C : Addr) (cl : List (Str × Addr)) (fp : List Addr), DG (X.blk s H scope (compEnvC scope cl C X.env) fp) B true tg is g) (ht : ∀ (s : Shared) (H : Hp) (C : Addr) (cl : List (Str × Addr)) (fp : List Addr), DTs (X.blk s H scope (compEnvC scope cl C X.env) fp) B ifs ta)
    (he : ∀ (s : Shared) (H : Hp) (C : Addr) (cl : List (Str × Addr)) (fp : List Addr), DE (X.blk s H scope (compEnvC scope cl C X.env) fp) B elt fa) (his : ∀ i ∈ is, i ∈ own.map (·.2) := by decide) (hc : X.calm = true := by rfl) (hs : ∀ x, foldedSetIterable iter X.env x = pure x := by intro _; rfl) :
    DS X B (.Assign [.Name y py] (.ListComp elt [⟨tg, iter, ifs, 0⟩] scope pos) spos) (sOwn i (nLc (own.map (·.2)) fi g ta fa)) :=
  (ps_setLc (tt := liftT X.K B ta) (te := liftE X.K B fa) hc hN hy hyl hsw hi.pi ok (fun s H C cl fp => (hg s H C cl fp).pg) ht he hs).wk fun D σ H ⟨env, z, E, S, hf, k1, k2, k3, k4⟩ =>
    lc_to his σ H _ ⟨env, z, _, S, hf, fun p H' vs xs q hp g hp' r => k1 _ _ _ H' q (S.setOwn g hp hp' r) (fr_hide hp g)⟩
theorem n_to_e {K : PySem.W.Frag} {f : FN} (σ : L2.St) (H : Hp) (Q : VK) (h : liftE K B (fOfN f) σ H Q) : liftN K B f σ H Q := by
  obtain ⟨env, z, Qd, S, hf, k⟩ := h
  refine ⟨env, z, _, S, hf, fun p H' vs xs q hp g e r => ?_⟩
  have hz := S.zk.new hp
  refine k _ _ _ q g (.lst ?_ (r.mono ?_))
  · unfold Sh
    rw [if_pos hz, e]
  · intro a o ea
    unfold Sh at ea ⊢
    split at ea
    · rename_i ha
      unfold hide at ha
      split at ha
      · cases ha
      · rw [if_pos ha]
        exact ea
    · cases ea
theorem ds_setLc {i : Nat} {y : Str} {py spos : Pos} (hN : X.N.Nodup) (hy : X.N[i]? = some y) (hyl : X.env.scope.names.lookup y = some .local)
    (hsw : swapsWith (.ListComp elt [⟨tg, iter, ifs, 0⟩] scope pos) (some (.Name y py)) spos.line X.env = pure true) (hi : DI X B tg iter fi) (ok : BlkOk X.N X.env.scope scope own)
    (hg : ∀ (s : Shared) (H : Hp) (C : Addr) (cl : List (Str × Addr)) (fp : List Addr), DG (X.blk s H scope (compEnvC scope cl C X.env) fp) B true tg is g) (ht : ∀ (s : Shared) (H : Hp) (C : Addr) (cl : List (Str × Addr)) (fp : List Addr), DTs (X.blk s H scope (compEnvC scope cl C X.env) fp) B ifs ta)
    (he : ∀ (s : Shared) (H : Hp) (C : Addr) (cl : List (Str × Addr)) (fp : List Addr), DE (X.blk s H scope (compEnvC scope cl C X.env) fp) B elt fa) (his : ∀ i ∈ is, i ∈ own.map (·.2) := by decide) (hc : X.calm = true := by rfl) (hs : ∀ x, foldedSetIterable iter X.env x = pure x := by intro _; rfl) :
    DS X B (.Assign [.Name y py] (.ListComp elt [⟨tg, iter, ifs, 0⟩] scope pos) spos) (sAsg (fOfN (nLc (own.map (·.2)) fi g ta fa)) (gNm i)) :=
  (ps_setLc (tt := liftT X.K B ta) (te := liftE X.K B fa) hc hN hy hyl hsw hi.pi ok (fun s H C cl fp => (hg s H C cl fp).pg) ht he hs).wk fun D σ H ⟨env, z, E, S, hf, k1, k2, k3, k4⟩ =>
    lc_to his σ H _ (n_to_e σ H _ ⟨env, z, _, S, hf, fun v H' x q g r => k1 _ z _ H' q ((S.grow g).set r) (Fr.of_gr g)⟩)
end

/-! ### built-in calls -/
def BltD (X : Cx) (B : Bs) (r : List V → Hp → VK → Prop) (g : List D → (D → Prop) → Prop) : Prop := ∀ (z : Zn) (H : Hp) (vs : List V) (xs : List D) (Qd : D → Prop) (Q : VK), Zk B z H → TRpL X.K B z H vs xs → g xs Qd →
  (∀ v H' c, Qd c → Gr X.K B H H' → Rp X.K (Sh z H') v c → Q v H') → r vs H Q
section
variable {x : Str} {p0 : Pos} {e : Expr} {es : List Expr} {fd : FDs} {id : String} {r : List V → Hp → VK → Prop} {g : List D → (D → Prop) → Prop}
theorem cb_wk (hg : BltD X B r g) {t : TA} (h2 : ∀ σ H env z Qd (Q : List V → Hp → Prop), Sim X.K B env z σ H → fd env Qd → (∀ vs H' xs, Qd xs → Gr X.K B H H' → TRpL X.K B z H' vs xs → Q vs H') → t σ H Q) (σ : L2.St) (H : Hp) (Q : VK)
    (h : liftE X.K B (fBlt g fd) σ H Q) : tCB r t σ H Q := by
  obtain ⟨env, z, Qd, S, hf, k⟩ := h
  exact h2 σ H env z _ _ S hf fun vs H1 xs q g1 r1 => hg z H1 vs xs Qd Q (S.grow g1).zk r1 q fun v H2 c q2 g2 r2 => k v H2 c q2 (g1.trans g2) r2
theorem de_blt (hc : CallR X (.builtin id) r) (hd : BltD X B r g) (hm : X.mg x = none) (ha : DRs X B (e :: es) fd) (hv : bootBuiltins x = some (.builtin id) := by decide +kernel) (hg : Gl X x := by rfl) (hn : x ≠ "__name__" := by decide) (hdb : (x == ("__debug__" : Str)) = false := by decide)
    (he : starEach (e :: es) X.env = (false, eval e X.env) :: starEach es X.env := by rfl) (hpl : (backTo pos (starEach es X.env)).any (·.1) = false := by rfl) : DE X B (.Call (.Name x p0) (e :: es) [] pos) (fBlt g fd) := by
  obtain ⟨t, h1, h2⟩ := ha.ex
  exact (pe_callB hc hg hm hv h1 hn hdb he hpl).wk fun σ H Q h => cb_wk hd h2 σ H Q h
theorem de_bty (hc : CallR X (.type id) r) (hd : BltD X B r g) (hm : X.mg x = none) (ha : DRs X B (e :: es) fd) (hv : bootBuiltins x = some (.type id) := by decide +kernel) (hg : Gl X x := by rfl) (hn : x ≠ "__name__" := by decide) (hdb : (x == ("__debug__" : Str)) = false := by decide)
    (he : starEach (e :: es) X.env = (false, eval e X.env) :: starEach es X.env := by rfl) (hpl : (backTo pos (starEach es X.env)).any (·.1) = false := by rfl) : DE X B (.Call (.Name x p0) (e :: es) [] pos) (fBlt g fd) := by
  obtain ⟨t, h1, h2⟩ := ha.ex
  exact (pe_callTy hc hg hm hv h1 hn hdb he hpl).wk fun σ H Q h => cb_wk hd h2 σ H Q h
/-- a built-in function under a module's name: gcd -/
theorem de_bfun (hc : CallR X (.builtin id) r) (hd : BltD X B r g) (hm : X.mg x = some (.builtin id)) (ha : DRs X B (e :: es) fd) (hg : Gl X x := by rfl) (hdb : (x == ("__debug__" : Str)) = false := by decide)
    (he : starEach (e :: es) X.env = (false, eval e X.env) :: starEach es X.env := by rfl) (hpl : (backTo pos (starEach es X.env)).any (·.1) = false := by rfl) : DE X B (.Call (.Name x p0) (e :: es) [] pos) (fBlt g fd) := by
  obtain ⟨t, h1, h2⟩ := ha.ex
  exact (pe_callBfun hc hg hm h1 hdb he hpl).wk fun σ H Q h => cb_wk hd h2 σ H Q h
end
theorem trpl1 {K : PySem.W.Frag} {z : Zn} {H : Hp} {vs : List V} {x : D} (h : TRpL K B z H vs [x]) : ∃ v, vs = [v] ∧ TRp K B z H v x := by
  cases h with
  | cons h t => cases t; exact ⟨_, rfl, h⟩
theorem trpl2 {K : PySem.W.Frag} {z : Zn} {H : Hp} {vs : List V} {x y : D} (h : TRpL K B z H vs [x, y]) : ∃ v w, vs = [v, w] ∧ TRp K B z H v x ∧ TRp K B z H w y := by
  cases h with
  | cons h t =>
    obtain ⟨w, rfl, h2⟩ := trpl1 t
    exact ⟨_, _, rfl, h, h2⟩
def bGcd : List D → (D → Prop) → Prop
  | [.int a, .int b], Q => Q (.int ((Nat.gcd a.natAbs b.natAbs : Nat) : Int))
  | _, _ => False
theorem bd_gcd : BltD X B rGcd bGcd := by
  intro z H vs xs Qd Q k r hg q
  unfold bGcd at hg
  split at hg
  · obtain ⟨v, w, rfl, h1, h2⟩ := trpl2 r
    cases h1.int; cases h2.int
    exact ⟨_, _, rfl, q _ H _ hg (Gr.refl H) (.int _)⟩
  · exact hg.elim
def bLen : List D → (D → Prop) → Prop
  | [.list xs], Q => Q (.int (xs.length : Nat))
  | [.tuple xs], Q => Q (.int (xs.length : Nat))
  | _, _ => False
theorem bd_len : BltD X B (fun xs H Q => ∃ p ys, xs = [.ref p] ∧ (SqL X.K H p ys ∨ SqT X.K H p ys) ∧ Q (.int ys.length) H) bLen := by
  intro z H vs xs Qd Q k r hg q
  unfold bLen at hg
  split at hg
  · obtain ⟨v, rfl, h1⟩ := trpl1 r
    obtain ⟨p, us, rfl, h2, r2⟩ := h1.list
    refine ⟨p, us, rfl, .inl (.of h2), q _ H _ hg (Gr.refl H) ?_⟩
    rw [r2.length]
    exact .int _
  · obtain ⟨v, rfl, h1⟩ := trpl1 r
    obtain ⟨p, us, rfl, h2, r2⟩ := h1.tuple
    refine ⟨p, us, rfl, .inr ((Sh.sub z H).st h2), q _ H _ hg (Gr.refl H) ?_⟩
    rw [r2.length]
    exact .int _
  · exact hg.elim
def bAbs : List D → (D → Prop) → Prop
  | [.int i], Q => Q (.int (if i < 0 then -i else i))
  | _, _ => False
theorem bd_abs : BltD X B (fun xs H Q => ∃ i, xs = [.int i] ∧ Q (.int (if i < 0 then -i else i)) H) bAbs := by
  intro z H vs xs Qd Q k r hg q
  unfold bAbs at hg
  split at hg
  · obtain ⟨v, rfl, h1⟩ := trpl1 r
    cases h1.int
    exact ⟨_, rfl, q _ H _ hg (Gr.refl H) (.int _)⟩
  · exact hg.elim
def bInt : List D → (D → Prop) → Prop
  | [.int i], Q => Q (.int i)
  | [.bool b], Q => Q (.int (if b then 1 else 0))
  | _, _ => False
theorem bd_int : BltD X B (fun xs H Q => (∃ i, xs = [.int i] ∧ Q (.int i) H) ∨ ∃ k, xs = [.bl k] ∧ Q (.int (if k then 1 else 0)) H) bInt := by
  intro z H vs xs Qd Q k r hg q
  unfold bInt at hg
  split at hg
  · obtain ⟨v, rfl, h1⟩ := trpl1 r
    cases h1.int
    exact .inl ⟨_, rfl, q _ H _ hg (Gr.refl H) (.int _)⟩
  · obtain ⟨v, rfl, h1⟩ := trpl1 r
    cases h1.bool
    exact .inr ⟨_, rfl, q _ H _ hg (Gr.refl H) (.int _)⟩
  · exact hg.elim
def bMax2 : List D → (D → Prop) → Prop
  | [.int i, .int j], Q => Q (.int (if j > i then j else i))
  | _, _ => False
theorem bd_max2 : BltD X B (fun xs H Q => ∃ i j, xs = [.int i, .int j] ∧ Q (.int (if j > i then j else i)) H) bMax2 := by
  intro z H vs xs Qd Q k r hg q
  unfold bMax2 at hg
  split at hg
  · obtain ⟨v, w, rfl, h1, h2⟩ := trpl2 r
    cases h1.int; cases h2.int
    exact ⟨_, _, rfl, q _ H _ hg (Gr.refl H) (.int _)⟩
  · exact hg.elim
def bMin2 : List D → (D → Prop) → Prop
  | [.int i, .int j], Q => Q (.int (if j < i then j else i))
  | _, _ => False
theorem bd_min2 : BltD X B (fun xs H Q => ∃ i j, xs = [.int i, .int j] ∧ Q (.int (if j < i then j else i)) H) bMin2 := by
  intro z H vs xs Qd Q k r hg q
  unfold bMin2 at hg
  split at hg
  · obtain ⟨v, w, rfl, h1, h2⟩ := trpl2 r
    cases h1.int; cases h2.int
    exact ⟨_, _, rfl, q _ H _ hg (Gr.refl H) (.int _)⟩
  · exact hg.elim
def bList : List D → (D → Prop) → Prop
  | [.list xs], Q => Q (.list xs)
  | [.tuple xs], Q => Q (.list xs)
  | _, _ => False
theorem bd_list : BltD X B (fun xs H Q => ∃ p ys, xs = [.ref p] ∧ (SqL X.K H p ys ∨ SqT X.K H p ys) ∧ ∀ l, H l = none → Q (.ref l) (upd H l (.lst ys))) bList := by
  intro z H vs xs Qd Q k r hg q
  unfold bList at hg
  split at hg
  · obtain ⟨v, rfl, h1⟩ := trpl1 r
    obtain ⟨p, us, rfl, h2, r2⟩ := h1.list
    exact ⟨p, us, rfl, .inl (.of h2), fun l hl => q _ _ _ hg (Gr.new hl) (rp_list k hl r2)⟩
  · obtain ⟨v, rfl, h1⟩ := trpl1 r
    obtain ⟨p, us, rfl, h2, r2⟩ := h1.tuple
    exact ⟨p, us, rfl, .inr ((Sh.sub z H).st h2), fun l hl => q _ _ _ hg (Gr.new hl) (rp_list k hl r2)⟩
  · exact hg.elim

/-! ### defs -/
theorem argsOk_len {K : PySem.W.Frag} {z : Zn} {H : Hp} {vs : List V} {xs : List Slot} (h : ArgsOk K B z H vs xs) : vs.length = xs.length := by
  induction h with
  | nil => rfl
  | cons _ _ ih => rw [List.length_cons, List.length_cons, ih]
theorem argsOk_get {K : PySem.W.Frag} {z : Zn} {H : Hp} {vs : List V} {xs : List Slot} (h : ArgsOk K B z H vs xs) : ∀ (i : Nat) (s : Slot), xs[i]? = some s → ∃ v, vs[i]? = some v ∧ ArgOk K B z H v s := by
  induction h with
  | nil => intro i s e; simp at e
  | cons h t ih =>
    intro i s e
    cases i with
    | zero => exact ⟨_, rfl, by simp at e; rw [← e]; exact h⟩
    | succ i => exact ih i s (by simpa using e)
theorem sim_start {K : PySem.W.Frag} {vs : List V} {xs : List Slot} {N : List Str} (S : Start K B) (h : ArgsOk K B B.z0 B.H0 vs xs) (hn : vs.length ≤ N.length) :
    Sim K B (xs ++ List.replicate (N.length - xs.length) .un) B.z0 (L2.start N vs) B.H0 where
  gr := Gr.refl _
  hot := S.zero
  own := fun a h => .inl h
  live := S.live
  live0 := S.live
  pz := S.pz
  pk := S.pk
  pk0 := S.pk
  len := by
    have := argsOk_len h
    unfold L2.start
    rw [List.length_append, List.length_append, List.length_map, List.length_replicate, List.length_replicate]
    omega
  sl := fun i s e => by
    by_cases hi : i < xs.length
    · rw [List.getElem?_append_left hi] at e
      obtain ⟨v, hv, ok⟩ := argsOk_get h i s e
      have hs : (L2.start N vs)[i]?.join = some v := by
        unfold L2.start
        rw [List.getElem?_append_left (by rw [List.length_map, argsOk_len h]; exact hi), List.getElem?_map, hv]
        rfl
      rw [hs]
      cases s with
      | un => trivial
      | own _ => exact ok.elim
      | d x => exact ⟨v, rfl, ok⟩
      | bor ys =>
        obtain ⟨a, ws, rfl, h1, h2, h3⟩ := ok
        refine ⟨a, ws, rfl, fun j q => ?_, h1, h2, h3⟩
        have := S.zero a (by rw [q]; exact fun z => nomatch z)
        rw [q] at this
        cases this
      | pool =>
        obtain ⟨p, h1, rfl⟩ := ok
        exact ⟨p, h1, rfl⟩
    · rw [List.getElem?_append_right (by omega), List.getElem?_replicate] at e
      split at e
      · cases e
        trivial
      · cases e
section
variable {P : Program} {w : World} {mg : Str → Option Value} {base : Heap} {K : PySem.W.Frag}
/-- a def of the text does what its semantics says -/
theorem ok_def {x : Str} {st : Stmt} {f : Addr} {fd : FuncData} {N ps : List Str} {k : Nat} {fs : FS} (F : Fun K x x st f fd) (sc : FnScope N ps (defScope st))
    (hb : ∀ (cdv : Value) (A : Around) (outer : List PySem.Env) (s : Shared) (H : Hp) (E : XK) (B : Bs), Room k (A.deeper (envOfC x (defScope st) s.heap.objs.size f cdv)) →
      DSs (cxOf CX0 P w K mg base N x (defScope st) f cdv A outer s H E).nox B (defBody st) fs) :
    FnOk P w K mg base CX0 (k + 1) f fd ps (spD K ps.length (runD N.length fs)) := by
  have hpl : ps.length ≤ N.length := by have := congrArg List.length sc.pre; rw [List.length_take] at this; omega
  refine F.ok sc (fun vs H Q E h => ?_) (fun cdv A outer s H vs Q E hr h => ?_)
  · obtain ⟨z, po, args, Qd, S, ok, hn, _⟩ := h
    exact hn
  · obtain ⟨z, po, args, Qd, S, ok, hn, hw, q⟩ := h
    refine ⟨_, hb cdv A outer s H E ⟨H, z, po⟩ hr, ?_⟩
    have hl := argsOk_len ok
    have S1 := sim_start (B := ⟨H, z, po⟩) (N := N) S ok (by omega)
    refine ⟨_, z, _, S1, hw, fun env' z' σ' H' h1 S2 _ => q _ _ _ h1 S2.gr .non, fun x v H' h1 g r => q _ _ _ h1 g r, fun _ _ _ _ h => h.elim, fun _ _ _ _ h => h.elim⟩
theorem fnd_of {x : Str} {st : Stmt} {f : Addr} {fd : FuncData} {ps : List Str} {k n : Nat} {fw : W} (F : Fun K x x st f fd) (h : FnOk P w K mg base CX0 k f fd ps (spD K n fw)) (hg : mg x = some (.ref f)) (b : Binds K fd ps []) : Fnd P w K mg base k x n fw :=
  ⟨f, fd, ps, h, hg, F.kp, b⟩
end
end
end DL

set_option Elab.async false
set_option linter.all false
set_option maxRecDepth 100000
set_option maxHeartbeats 1000000
/-! DLH: the D-layer: a def as it stands behind the top; more built-ins; small lemmas for the printed terms. -/
namespace DL
open PySem PySem.Spec PyProof.Rows L2
theorem hu65 {k : Nat} {A : Around} (r : Room k A) : A.units + 65 < cLine := by have := r.un; omega
abbrev iLst (fa : FE) : FI := fun env Q => fa env fun x => match x with | .list xs => Q xs | _ => False
abbrev iTup (fa : FE) : FI := fun env Q => fa env fun x => match x with | .tuple xs => Q xs | _ => False
theorem item_ex {i : Nat} {fi : FE} (h : ∀ env Q, fi env Q → ∃ x, Q x) : ∀ x env (Q : Env → Prop), gItem i fi x env Q → ∃ e, Q e := fun x env Q q => by
  obtain ⟨xs, _, q⟩ := mutS_get q
  obtain ⟨k, q⟩ := h _ _ q
  cases k <;> try exact q.elim
  case int n =>
    obtain ⟨j, _, q⟩ := need_get q
    exact ⟨_, q⟩
section
variable {P : Program} {w : World} {mg : Str → Option Value} {base : Heap} {K : PySem.W.Frag}
/-- the def st stands under the module's name x -/
def DefAt (K : PySem.W.Frag) (mg : Str → Option Value) (x : Str) (st : Stmt) : Prop := ∃ (f : Addr) (fd : FuncData), FunD K x x (defArgs st) (defBody st) (defScope st) [] [] f fd ∧ mg x = some (.ref f)
theorem fnOk_def {x : Str} {st : Stmt} {f : Addr} {fd : FuncData} {N ps : List Str} {k : Nat} {fs : FS} (F : FunD K x x (defArgs st) (defBody st) (defScope st) [] [] f fd) (sc : FnScope N ps (defScope st))
    (hb : ∀ (cdv : Value) (A : Around) (outer : List PySem.Env) (s : Shared) (H : Hp) (E : XK) (B : Bs), Room k (A.deeper (envOfC x (defScope st) s.heap.objs.size f cdv)) →
      DSs (cxOf CX0 P w K mg base N x (defScope st) f cdv A outer s H E).nox B (defBody st) fs) :
    FnOk P w K mg base CX0 (k + 1) f fd ps (spD K ps.length (runD N.length fs)) := by
  have hpl : ps.length ≤ N.length := by have := congrArg List.length sc.pre; rw [List.length_take] at this; omega
  refine F.ok sc (fun vs H Q E h => ?_) (fun cdv A outer s H vs Q E hr h => ?_)
  · obtain ⟨z, po, args, Qd, S, ok, hn, _⟩ := h
    exact hn
  · obtain ⟨z, po, args, Qd, S, ok, hn, hw, q⟩ := h
    refine ⟨_, PSs.nox (hb cdv A outer s H E ⟨H, z, po⟩ hr), ?_⟩
    have hl := argsOk_len ok
    have S1 := sim_start (B := ⟨H, z, po⟩) (N := N) S ok (by omega)
    refine ⟨_, z, _, S1, hw, fun env' z' σ' H' h1 S2 _ => q _ _ _ h1 S2.gr .non, fun x v H' h1 g r => q _ _ _ h1 g r, fun _ _ _ _ h => h.elim, fun _ _ _ _ h => h.elim⟩
theorem fnd_def {x : Str} {st : Stmt} {N ps : List Str} {k : Nat} {fs : FS} (D : DefAt K mg x st) (sc : FnScope N ps (defScope st))
    (hbd : ∀ (kV doc pm : Value) (an : Option Addr) (cdv ct : Value) (us : List Value), us.length = ps.length → bindArgs (PySem.W.fnOf x x (defArgs st) (defBody st) (defScope st) .none kV doc pm an cdv ct) ⟨us, []⟩ = pure (ps.zip us))
    (hb : ∀ (f : Addr) (cdv : Value) (A : Around) (outer : List PySem.Env) (s : Shared) (H : Hp) (E : XK) (B : Bs), Room k (A.deeper (envOfC x (defScope st) s.heap.objs.size f cdv)) →
      DSs (cxOf CX0 P w K mg base N x (defScope st) f cdv A outer s H E).nox B (defBody st) fs) : Fnd P w K mg base (k + 1) x ps.length (runD N.length fs) := by
  obtain ⟨f, fd, F, g⟩ := D
  exact ⟨f, fd, ps, fnOk_def F sc (hb f), g, F.kp, F.bindsN hbd⟩
theorem kc_tup {x : Str} {a : Addr} {vs : List V} {xs : List D} (h1 : mg x = some (.ref a)) (h2 : ∀ H, SqT K H a vs) (h3 : ∀ G, RpL K G vs xs) : KC K mg x (.tuple xs) := ⟨.ref a, .ref a, h1, rfl, fun G => .tup (h2 G) (h3 G)⟩
end

/-! fresh lists by operations -/
section
variable {X : Cx} {B : Bs} {a b c : Expr} {fa fb fc : FE} {pos : Pos}
theorem dn_add (ha : DR X B a fa) (hb : DR X B b fb) : DN X B (.BinOp a .Add b pos) (nOf (fBin gAdd fa fb)) := by
  refine (pe_op op_cat ha hb).wk fun σ H Q ⟨env, z, Qd, S, hf, k⟩ => ?_
  refine ⟨env, z, _, S, hf, fun v H1 x q g1 r1 => ⟨env, z, _, S.grow g1, q, fun w H2 y q2 g2 r2 => ?_⟩⟩
  have r1' := r1.grow S.pool g2
  cases x <;> cases y <;> try exact q2.elim
  case str.str => exact q2.2.elim
  case list.list xs ys =>
    obtain ⟨p, vs, rfl, h1, rr1⟩ := r1'.list
    obtain ⟨p2, ws, rfl, h2, rr2⟩ := r2.list
    refine ⟨p, p2, vs, ws, rfl, rfl, h1, h2, by rw [rr1.length, rr2.length]; exact q2.1, fun l hl => ?_⟩
    exact k l _ _ _ q2.2 (fresh_back (S.grow g1) g2 hl |> fresh_back S g1) ((g1.trans g2).trans (Gr.new hl)) upd_same ((rr1.append rr2).mono (sub_hide hl))
  case tuple.tuple => exact q2.2.2.2.elim
theorem dn_mul (ha : DR X B a fa) (hb : DR X B b fb) : DN X B (.BinOp a .Mult b pos) (nOf (fBin gMul fa fb)) := by
  refine (pe_op op_rep ha hb).wk fun σ H Q ⟨env, z, Qd, S, hf, k⟩ => ?_
  refine ⟨env, z, _, S, hf, fun v H1 x q g1 r1 => ⟨env, z, _, S.grow g1, q, fun w H2 y q2 g2 r2 => ?_⟩⟩
  have r1' := r1.grow S.pool g2
  cases x <;> cases y <;> try exact q2.elim
  case int.int => exact q2.2.elim
  case list.int xs n =>
    obtain ⟨p, vs, rfl, h1, rr1⟩ := r1'.list
    cases r2.int
    refine ⟨p, n, vs, rfl, rfl, h1, by have := q2.2.1; omega, by have := q2.1; omega, by rw [rr1.length]; exact q2.2.2.1, fun l hl => ?_⟩
    exact k l _ _ _ q2.2.2.2 (fresh_back (S.grow g1) g2 hl |> fresh_back S g1) ((g1.trans g2).trans (Gr.new hl)) upd_same ((rr1.rep _).mono (sub_hide hl))
theorem dn_list {p0 : Pos} {fd : FDs} (hm : X.mg "list" = none) (ha : DRs X B (a :: []) fd) (hg : Gl X "list" := by rfl) 
    (he : starEach (a :: []) X.env = (false, eval a X.env) :: starEach [] X.env := by rfl) (hpl : (backTo pos (starEach [] X.env)).any (·.1) = false := by rfl) : DN X B (.Call (.Name "list" p0) [a] [] pos) (nOf (fBlt bList fd)) := by
  obtain ⟨t, h1, h2⟩ := ha.ex
  refine (pe_callTy call_list_of hg hm (by decide +kernel) h1 (by decide) (by decide) he hpl).wk fun σ H Q ⟨env, z, Qd, S, hf, k⟩ => ?_
  refine h2 σ H env z _ _ S hf fun vs H1 xs q g1 r1 => ?_
  unfold bList at q
  split at q
  · obtain ⟨v, rfl, h3⟩ := trpl1 r1
    obtain ⟨p, us, rfl, h4, r2⟩ := h3.list
    exact ⟨p, us, rfl, .inl (.of h4), fun l hl => k l _ _ _ q (fresh_back S g1 hl) (g1.trans (Gr.new hl)) upd_same (r2.mono (sub_hide hl))⟩
  · obtain ⟨v, rfl, h3⟩ := trpl1 r1
    obtain ⟨p, us, rfl, h4, r2⟩ := h3.tuple
    exact ⟨p, us, rfl, .inr ((Sh.sub z H1).st h4), fun l hl => k l _ _ _ q (fresh_back S g1 hl) (g1.trans (Gr.new hl)) upd_same (r2.mono (sub_hide hl))⟩
  · exact q.elim
end
end DL

set_option Elab.async false
set_option linter.all false
set_option maxRecDepth 100000
set_option maxHeartbeats 1000000
/-! DLZ: zip(xs, ys, strict=True) and strict=False, of lists: the machine's rules, the iterator, the D-layer's rule. -/
namespace ZS
open PySem PySem.Spec PyProof.Rows
open Sem (wp)
abbrev IsZipS (h : Heap) (z TI TO : Addr) (f0 : Value) : Prop :=
  h.get? z = some { cls := .type "zip", dict := none, data := .fields #[f0, .bool false, .bool true, .ref TI, .ref TO], slots := #[] }
section
variable {prog : Program} {w : World} {A : Around} {E : Value → Shared → Prop} {s : Shared}
theorem orEnd_item {it l : Addr} {i : Nat} {items : Array Value} {x : Value} {Q : Option Value → Shared → Prop} (hit : s.heap.IsListIter it l i) (hl : s.heap.IsList l items) (hx : items[i]? = some x)
    (hQ : ∀ h', h'.IsListIter it l (i + 1) → Heap.SameBut it s.heap h' → Q (some x) { s with heap := h' }) : wpAny (model prog w) A (Builtin.SmallTypes.nextOrEnd (.ref it)) Q E s := by
  unfold Builtin.SmallTypes.nextOrEnd
  exact wpAny_bind (wpAny_attempt (wpAny_nextOf_list_item hit hl hx fun h' a b => wpAny_pure (hQ h' a b)))
theorem orEnd_end {it l : Addr} {i : Nat} {items : Array Value} {Q : Option Value → Shared → Prop} (hh : A.handled = none) (hit : s.heap.IsListIter it l i) (hl : s.heap.IsList l items) (hx : items[i]? = none)
    (hQ : ∀ h', (∀ c o, c ≠ it → s.heap.get? c = some o → h'.get? c = some o) → Q none { s with heap := h' }) : wpAny (model prog w) A (Builtin.SmallTypes.nextOrEnd (.ref it)) Q E s := by
  unfold Builtin.SmallTypes.nextOrEnd
  refine wpAny_bind (wpAny_attempt (wpAny_nextOf_list_end hh hit hl hx fun h' e hs he => ?_))
  obtain ⟨o, ho, hc⟩ := he
  refine wpAny_bind (wpAny_isInstance (T := "StopIteration") (b := true) ⟨o, ho, hc⟩ isSubtype_stop ?_)
  exact wpAny_pure (hQ h' hs)
theorem zip_next_item {z TI TO i1 i2 l1 l2 : Addr} {k1 k2 : Nat} {xs ys : Array Value} {x y a b : Value} {Q : Value → Shared → Prop} (D : ZipApart z TI TO i1 i2 l1 l2)
    (hz : IsZipS s.heap z TI TO .none) (hTI : IsPair s.heap TI (.ref i1) (.ref i2)) (hTO : IsPair s.heap TO a b)
    (h1 : s.heap.IsListIter i1 l1 k1) (h2 : s.heap.IsListIter i2 l2 k2) (hl1 : s.heap.IsList l1 xs) (hl2 : s.heap.IsList l2 ys) (hx : xs[k1]? = some x) (hy : ys[k2]? = some y)
    (hQ : ∀ h', IsZipS h' z TI TO (rawInt s.heap.objs.size) → IsPair h' TO x y → h'.IsListIter i1 l1 (k1 + 1) → h'.IsListIter i2 l2 (k2 + 1) → IsPair h' s.heap.objs.size x y → h'.objs.size = s.heap.objs.size + 1 →
      (∀ c o, c ≠ z → c ≠ TO → c ≠ i1 → c ≠ i2 → s.heap.get? c = some o → h'.get? c = some o) → Q (.ref s.heap.objs.size) { s with heap := h' }) :
    wpAny (model prog w) A (Builtin.«zip.__next__» ⟨[.ref z], []⟩) (fun fin s' => ∃ v, fin = .done (.ret v) ∧ Q v s') E s := by
  show wpAny _ _ (field (.ref z) 2 >>= _) _ _ _
  refine wpAny_bind (wpAny_field hz rfl (x := .bool true) rfl ?_)
  show wpAny _ _ (field (.ref z) 3 >>= _) _ _ _
  refine wpAny_bind (wpAny_field hz rfl (x := .ref TI) rfl ?_)
  refine wpAny_bind (wpAny_seqItems hTI rfl ?_)
  show wpAny _ _ (Builtin.SmallTypes.ownedTupleIsFree (.ref z) >>= _) _ _ _
  refine wpAny_bind ?_
  unfold Builtin.SmallTypes.ownedTupleIsFree
  refine wpAny_bind (wpAny_field hz rfl (x := .none) rfl (wpAny_pure ?_))
  simp only [if_true]
  refine wpAny_bind (wpAny_rule ?_)
  refine wpAny_bind (wpAny_field hz rfl (x := .ref TO) rfl ?_)
  refine wpAny_bind (wpAny_setField_rec hz (by simp) fun h₁ hz₁ hs₁ => ?_)
  replace hz₁ : IsZipS h₁ z TI TO .ellipsis := hz₁
  refine wpAny_bind ?_
  simp only [List.zipIdx_cons, List.zipIdx_nil, List.forIn_cons, List.forIn_nil]
  refine wpAny_bind (wpAny_bind (wpAny_onRaise ?_))
  show wpAny _ _ (Builtin.SmallTypes.nextOrEnd (.ref i1)) _ _ _
  refine orEnd_item (h1.extBut hs₁.extBut D.i1z) (hl1.extBut hs₁.extBut D.l1z) hx fun h₂ h1₂ hs₂ => ?_
  have hTO₂ : IsPair h₂ TO a b := hs₂.extBut _ _ D.TOi1 (hs₁.extBut _ _ D.TOz hTO)
  refine wpAny_bind (wpAny_seqItems hTO₂ rfl ?_)
  refine wpAny_bind (wpAny_updateSeq_pair hTO₂ fun h₃ hTO₃ hs₃ => ?_)
  replace hTO₃ : IsPair h₃ TO x b := hTO₃
  refine wpAny_bind (wpAny_letGo (wpAny_pure ?_))
  refine wpAny_bind (wpAny_bind (wpAny_onRaise ?_))
  show wpAny _ _ (Builtin.SmallTypes.nextOrEnd (.ref i2)) _ _ _
  refine orEnd_item (((h2.extBut hs₁.extBut D.i2z).extBut hs₂.extBut D.i12.symm).extBut hs₃.extBut D.TOi2.symm)
    (((hl2.extBut hs₁.extBut D.l2z).extBut hs₂.extBut D.l2i1).extBut hs₃.extBut D.l2TO) hy fun h₄ h2₄ hs₄ => ?_
  have hTO₄ : IsPair h₄ TO x b := hs₄.extBut _ _ D.TOi2 hTO₃
  refine wpAny_bind (wpAny_seqItems hTO₄ rfl ?_)
  refine wpAny_bind (wpAny_updateSeq_pair hTO₄ fun h₅ hTO₅ hs₅ => ?_)
  replace hTO₅ : IsPair h₅ TO x y := hTO₅
  refine wpAny_bind (wpAny_letGo (wpAny_pure (wpAny_pure ?_)))
  refine wpAny_bind (wpAny_seqItems hTO₅ rfl ?_)
  refine wpAny_bind (wpAny_newTuple ?_)
  have hsz : h₅.objs.size = s.heap.objs.size := by rw [hs₅.1, hs₄.1, hs₃.1, hs₂.1, hs₁.1]
  have hz₅ : IsZipS h₅ z TI TO .ellipsis := hs₅.extBut _ _ D.TOz.symm (hs₄.extBut _ _ D.i2z.symm (hs₃.extBut _ _ D.TOz.symm (hs₂.extBut _ _ D.i1z.symm hz₁)))
  have hk₅ : ∀ c o, c ≠ z → c ≠ TO → c ≠ i1 → c ≠ i2 → s.heap.get? c = some o → h₅.get? c = some o := fun c o c1 c2 c3 c4 e =>
    hs₅.extBut _ _ c2 (hs₄.extBut _ _ c4 (hs₃.extBut _ _ c2 (hs₂.extBut _ _ c3 (hs₁.extBut _ _ c1 e))))
  have h1₅ : h₅.IsListIter i1 l1 (k1 + 1) := ((h1₂.extBut hs₃.extBut D.TOi1.symm).extBut hs₄.extBut D.i12).extBut hs₅.extBut D.TOi1.symm
  have h2₅ : h₅.IsListIter i2 l2 (k2 + 1) := h2₄.extBut hs₅.extBut D.TOi2.symm
  have hzlt : z < h₅.objs.size := Heap.lt_size hz₅
  show wpAny _ _ (Builtin.SmallTypes.ownedTupleHandOut (.ref z) (.ref h₅.objs.size) >>= _) _ _ _
  refine wpAny_bind ?_
  unfold Builtin.SmallTypes.ownedTupleHandOut
  have hz₆ : IsZipS (h₅.push { cls := .type "tuple", data := .seq #[x, y] }) z TI TO .ellipsis := Heap.get?_push_of_some _ hz₅
  refine wpAny_bind (wpAny_setField_rec hz₆ (by simp) fun h₇ hz₇ hs₇ => ?_)
  replace hz₇ : IsZipS h₇ z TI TO (rawInt h₅.objs.size) := hz₇
  refine wpAny_setField_rec hz₇ (by simp) fun h₈ hz₈ hs₈ => ?_
  replace hz₈ : IsZipS h₈ z TI TO (rawInt h₅.objs.size) := hz₈
  have up : ∀ c o, c ≠ z → h₅.get? c = some o → h₈.get? c = some o := fun c o c1 e => hs₈.extBut _ _ c1 (hs₇.extBut _ _ c1 (Heap.get?_push_of_some _ e))
  have hT₈ : IsPair h₈ h₅.objs.size x y := hs₈.extBut _ _ (Nat.ne_of_gt hzlt) (hs₇.extBut _ _ (Nat.ne_of_gt hzlt) (Heap.get?_push_size _ rfl))
  have hz8 : h₈.objs.size = h₅.objs.size + 1 := by rw [hs₈.1, hs₇.1, Heap.size_push]
  rw [hsz] at hz₈ hT₈ hz8
  refine wpAny_pure ⟨_, rfl, ?_⟩
  show Q (.ref h₅.objs.size) _
  rw [hsz]
  exact hQ h₈ hz₈ (up _ _ D.TOz hTO₅) (h1₅.at fun o e => up _ o D.i1z e) (h2₅.at fun o e => up _ o D.i2z e) hT₈ hz8 fun c o c1 c2 c3 c4 e => up c o c1 (hk₅ c o c1 c2 c3 c4 e)
theorem stop_ {Q : Fin → Shared → Prop} (hh : A.handled = none) (hE : ∀ h' e, (∀ c o, s.heap.get? c = some o → h'.get? c = some o) → (∃ o, h'.get? e = some o ∧ o.cls = .type "StopIteration") → E (.ref e) { s with heap := h' }) :
    wpAny (model prog w) A (Builtin.SmallTypes.stopIteration : Sem Fin) Q E s := by
  unfold Builtin.SmallTypes.stopIteration
  refine wpAny_bind ?_
  simp only [newExc, newTuple]
  refine wpAny_bind (wpAny_newObj_type ?_ (by size_fits))
  refine wpAny_bind (m := firstArgMember _ _) (wpAny_of_eq (a := Value.none) (by first | rfl | (simp only [firstArgMember]; rfl)) ?_)
  refine wpAny_newObj_type ?_ (by size_fits)
  simp only [raiseNew]
  refine wpAny_bind (wpAny_handled ?_)
  first | rw [show A.in1.handled = none from hh] | rw [hh]
  refine wpAny_bind (wpAny_pure (wpAny_throw ?_))
  exact hE _ _ (fun c o e => Heap.get?_push_of_some _ (Heap.get?_push_of_some _ e)) ⟨_, Heap.get?_push_size _ rfl, rfl⟩
theorem zip_next_end {z TI TO i1 i2 l1 l2 : Addr} {k1 k2 : Nat} {xs ys : Array Value} {a b : Value} {Q : Fin → Shared → Prop} (hh : A.handled = none) (D : ZipApart z TI TO i1 i2 l1 l2)
    (hz : IsZipS s.heap z TI TO .none) (hTI : IsPair s.heap TI (.ref i1) (.ref i2)) (hTO : IsPair s.heap TO a b)
    (h1 : s.heap.IsListIter i1 l1 k1) (h2 : s.heap.IsListIter i2 l2 k2) (hl1 : s.heap.IsList l1 xs) (hl2 : s.heap.IsList l2 ys) (hx : xs[k1]? = none) (hy : ys[k2]? = none)
    (hE : ∀ h' e, (∀ c o, c ≠ z → c ≠ TO → c ≠ i1 → c ≠ i2 → s.heap.get? c = some o → h'.get? c = some o) → (∃ o, h'.get? e = some o ∧ o.cls = .type "StopIteration") → E (.ref e) { s with heap := h' }) :
    wpAny (model prog w) A (Builtin.«zip.__next__» ⟨[.ref z], []⟩) Q E s := by
  show wpAny _ _ (field (.ref z) 2 >>= _) _ _ _
  refine wpAny_bind (wpAny_field hz rfl (x := .bool true) rfl ?_)
  show wpAny _ _ (field (.ref z) 3 >>= _) _ _ _
  refine wpAny_bind (wpAny_field hz rfl (x := .ref TI) rfl ?_)
  refine wpAny_bind (wpAny_seqItems hTI rfl ?_)
  show wpAny _ _ (Builtin.SmallTypes.ownedTupleIsFree (.ref z) >>= _) _ _ _
  refine wpAny_bind ?_
  unfold Builtin.SmallTypes.ownedTupleIsFree
  refine wpAny_bind (wpAny_field hz rfl (x := .none) rfl (wpAny_pure ?_))
  simp only [if_true]
  refine wpAny_bind (wpAny_rule ?_)
  refine wpAny_bind (wpAny_field hz rfl (x := .ref TO) rfl ?_)
  refine wpAny_bind (wpAny_setField_rec hz (by simp) fun h₁ hz₁ hs₁ => ?_)
  replace hz₁ : IsZipS h₁ z TI TO .ellipsis := hz₁
  refine wpAny_bind ?_
  simp only [List.zipIdx_cons, List.zipIdx_nil, List.forIn_cons, List.forIn_nil]
  refine wpAny_bind (wpAny_bind (wpAny_onRaise ?_))
  show wpAny _ _ (Builtin.SmallTypes.nextOrEnd (.ref i1)) _ _ _
  refine orEnd_end hh (h1.extBut hs₁.extBut D.i1z) (hl1.extBut hs₁.extBut D.l1z) hx fun h₂ hs₂ => ?_
  have hz₂ : IsZipS h₂ z TI TO .ellipsis := hs₂ _ _ D.i1z.symm hz₁
  refine wpAny_bind (wpAny_setField_rec hz₂ (by simp) fun h₃ hz₃ hs₃ => ?_)
  refine wpAny_bind ?_
  show wpAny _ _ ((_ : Sem PUnit) >>= _) _ _ _
  refine wpAny_bind ?_
  show wpAny _ _ ((Builtin.SmallTypes.nextOrEnd (.ref i2) >>= _) >>= _) _ _ _
  refine wpAny_bind (wpAny_bind ?_)
  refine orEnd_end hh (((h2.extBut hs₁.extBut D.i2z).extBut hs₂ D.i12.symm).extBut hs₃.extBut D.i2z) (((hl2.extBut hs₁.extBut D.l2z).extBut hs₂ D.l2i1).extBut hs₃.extBut D.l2z) hy fun h₄ hs₄ => ?_
  rw [if_neg (by simp)]
  refine wpAny_pure ?_
  refine wpAny_pure ?_
  refine wpAny_bind (wpAny_rule (stop_ hh fun h' e hk he => hE h' e (fun c o c1 _ c3 c4 x => ?_) he))
  exact hk c o (hs₄ c o c4 (hs₃.extBut c o c1 (hs₂ c o c3 (hs₁.extBut c o c1 x))))
theorem pyNext_item {z TI TO i1 i2 l1 l2 : Addr} {k1 k2 : Nat} {xs ys : Array Value} {x y a b : Value} {Q : Option Value → Shared → Prop} (D : ZipApart z TI TO i1 i2 l1 l2)
    (hz : IsZipS s.heap z TI TO .none) (hTI : IsPair s.heap TI (.ref i1) (.ref i2)) (hTO : IsPair s.heap TO a b)
    (h1 : s.heap.IsListIter i1 l1 k1) (h2 : s.heap.IsListIter i2 l2 k2) (hl1 : s.heap.IsList l1 xs) (hl2 : s.heap.IsList l2 ys) (hx : xs[k1]? = some x) (hy : ys[k2]? = some y)
    (hQ : ∀ h', IsZipS h' z TI TO (rawInt s.heap.objs.size) → IsPair h' TO x y → h'.IsListIter i1 l1 (k1 + 1) → h'.IsListIter i2 l2 (k2 + 1) → IsPair h' s.heap.objs.size x y → h'.objs.size = s.heap.objs.size + 1 →
      (∀ c o, c ≠ z → c ≠ TO → c ≠ i1 → c ≠ i2 → s.heap.get? c = some o → h'.get? c = some o) → Q (some (.ref s.heap.objs.size)) { s with heap := h' }) :
    wpAny (model prog w) A (pyNext (.ref z)) Q E s := by
  have hT : s.TypeIs (.ref z) "zip" := ⟨_, hz, rfl⟩
  unfold pyNext
  exact wpAny_bind (wpAny_attempt (wpAny_callSpecial?_slot (name := Str.ofString "__next__") hT F.slot_zip_next
    (wpAny_call_entry F.slot_zip_next hT F.entry_zip_next
      (zip_next_item D hz hTI hTO h1 h2 hl1 hl2 hx hy fun h' a1 a2 a3 a4 a5 a6 a7 => wpAny_pure (hQ h' a1 a2 a3 a4 a5 a6 a7)) (F.args_zip_next_1 _))))
theorem pyNext_end {z TI TO i1 i2 l1 l2 : Addr} {k1 k2 : Nat} {xs ys : Array Value} {a b : Value} {Q : Option Value → Shared → Prop} (hh : A.handled = none) (D : ZipApart z TI TO i1 i2 l1 l2)
    (hz : IsZipS s.heap z TI TO .none) (hTI : IsPair s.heap TI (.ref i1) (.ref i2)) (hTO : IsPair s.heap TO a b)
    (h1 : s.heap.IsListIter i1 l1 k1) (h2 : s.heap.IsListIter i2 l2 k2) (hl1 : s.heap.IsList l1 xs) (hl2 : s.heap.IsList l2 ys) (hx : xs[k1]? = none) (hy : ys[k2]? = none)
    (hQ : ∀ h', (∀ c o, c ≠ z → c ≠ TO → c ≠ i1 → c ≠ i2 → s.heap.get? c = some o → h'.get? c = some o) → Q none { s with heap := h' }) : wpAny (model prog w) A (pyNext (.ref z)) Q E s := by
  have hT : s.TypeIs (.ref z) "zip" := ⟨_, hz, rfl⟩
  unfold pyNext
  refine wpAny_bind (wpAny_attempt (wpAny_callSpecial?_slot (name := Str.ofString "__next__") hT F.slot_zip_next
    (wpAny_call_entry F.slot_zip_next hT F.entry_zip_next (zip_next_end hh D hz hTI hTO h1 h2 hl1 hl2 hx hy fun h' e hk he => ?_) (F.args_zip_next_1 _))))
  obtain ⟨o, ho, hc⟩ := he
  refine wpAny_bind (wpAny_isInstance (T := "StopIteration") (b := true) ⟨o, ho, hc⟩ isSubtype_stop ?_)
  exact wpAny_pure (hQ _ hk)
theorem letGo {elts : List Expr} {x1} {pos : Pos} {z TI TO T : Addr} {Q : Unit → Shared → Prop} (hz : IsZipS s.heap z TI TO (rawInt T))
    (hQ : ∀ h', IsZipS h' z TI TO .none → Heap.SameBut z s.heap h' → Q () { s with heap := h' }) :
    wpAny (model prog w) A (letOwnedTupleGo (.Tuple elts x1 pos) (.ref z) (.ref T)) Q E s := by
  unfold letOwnedTupleGo
  refine wpAny_bind (wpAny_load hz ?_)
  show wpAny _ _ (if (["enumerate", "zip", "dict_itemiterator", "dict_reverseitemiterator", "odict_iterator", "itertools.zip_longest", "itertools.pairwise"].contains "zip" &&
      (#[rawInt T, .bool false, .bool true, .ref TI, .ref TO] : Array Value)[0]? == some (rawInt T)) = true then _ else _) Q E s
  rw [if_pos (by simp)]
  refine wpAny_bind (wpAny_rule ?_)
  show wpAny _ _ (setField (.ref z) 0 .none) Q E s
  exact wpAny_setField_rec hz (by simp) fun h' hz' hs' => hQ h' hz' hs'
theorem pyIterS {z TI TO : Addr} {f0 : Value} {Q : Value → Shared → Prop} (hz : IsZipS s.heap z TI TO f0) (h : Q (.ref z) s) : wpAny (model prog w) A (pyIter (.ref z)) Q E s := by
  have hT : s.TypeIs (.ref z) "zip" := ⟨_, hz, rfl⟩
  refine wpAny_pyIter_slot hT F.slot_zip_iter (wpAny_call_entry F.slot_zip_iter hT F.entry_zip_iter ?_ (F.args_zip_iter_1 _))
  show wpAny _ _ (ret (.ref z)) _ _ s
  exact wpAny_pure ⟨_, rfl, "zip", _, hT, F.slot_zip_next.lookup, h⟩
end
/-! ### the call, strict told by its name -/
theorem typeCall (a b c : Value) : checkTypeCall "zip" ⟨[a, b], [(Str.ofString "strict", c)]⟩ = pure () := by kernel_rfl
theorem newCall (a b c : Value) : checkBuiltinCall "zip.__new__" ⟨[.type "zip", a, b], [(Str.ofString "strict", c)]⟩ = pure () := by kernel_rfl
theorem args_init (obj a b c : Value) : argsOk "object.__init__" ⟨[obj, a, b], [(Str.ofString "strict", c)]⟩ := by unfold argsOk; kernel_rfl
abbrev zipHk (k : Bool) (h : Heap) (l1 l2 : Addr) : Heap := (zipH4 h l1 l2).push { cls := .type "zip", data := .fields #[.none, .bool false, .bool k, .ref (zipH2 h l1 l2).objs.size, .ref (zipH3 h l1 l2).objs.size] }
theorem meets_new (k : Bool) (l1 l2 : Addr) (xs ys : Array Value) :
    Meets (Builtin.«zip.__new__» ⟨[.type "zip", .ref l1, .ref l2], [(Str.ofString "strict", .bool k)]⟩) (fun _ R s => s.heap.IsList l1 xs ∧ s.heap.IsList l2 ys ∧
      R (.ok (.ret (.ref (zipH4 s.heap l1 l2).objs.size))) { s with heap := zipHk k s.heap l1 l2 }) :=
  .of_wp fun prog w A R s h => by
    obtain ⟨hp, g, d, tk, os⟩ := s; obtain ⟨hl1, hl2, h⟩ := h
    have hsub := sub_zip
    have hL1 : Heap.IsList (Shared.heap ⟨hp, g, d, tk, os⟩) l1 xs := hl1
    have hL2 : Heap.IsList (Shared.heap ⟨hp.push { cls := .type "list_iterator", data := .fields #[.ref l1, .int 0 0] }, g, d, tk, os⟩) l2 ys := Heap.IsList.push hl2 _
    have e1 : (Str.ofString "strict" != ("strict" : Str)) = false := by decide +kernel
    wp_walk using wpAny_pyIter_list hL1, wpAny_pyIter_list hL2
    exact ⟨_, rfl, h⟩
end ZS
namespace ZS
open PySem PySem.Spec PyProof.Rows L2
section
variable {prog : Program} {w : World} {A : Around} {E : Value → Shared → Prop} {s : Shared}
theorem call_zip_kw {k : Bool} {l1 l2 : Addr} {xs ys : Array Value} {Q : Value → Shared → Prop} (hl1 : s.heap.IsList l1 xs) (hl2 : s.heap.IsList l2 ys)
    (h : ∀ h', h'.get? (s.heap.objs.size + 4) = some { cls := .type "zip", data := .fields #[.none, .bool false, .bool k, .ref (s.heap.objs.size + 2), .ref (s.heap.objs.size + 3)] } → IsPair h' (s.heap.objs.size + 2) (.ref s.heap.objs.size) (.ref (s.heap.objs.size + 1)) →
      IsPair h' (s.heap.objs.size + 3) .none .none → h'.IsListIter s.heap.objs.size l1 0 → h'.IsListIter (s.heap.objs.size + 1) l2 0 →
      (∀ c o, s.heap.get? c = some o → h'.get? c = some o) → Q (.ref (s.heap.objs.size + 4)) { s with heap := h' }) :
    wpAny (model prog w) A (call (.type "zip") [.ref l1, .ref l2] [(Str.ofString "strict", .bool k)]) Q E s := by
  refine callType_newKw F.called_zip (by decide) (typeCall _ _ _) (newCall _ _ _) (fun obj => args_init obj _ _ _) F.entry_zip_new
    (meets_new k l1 l2 xs ys) ⟨hl1, hl2, ?_⟩
  have z1 : (zipH1 s.heap l1).objs.size = s.heap.objs.size + 1 := Heap.size_push ..
  have z2 : (zipH2 s.heap l1 l2).objs.size = s.heap.objs.size + 2 := by rw [Heap.size_push, z1]
  have z3 : (zipH3 s.heap l1 l2).objs.size = s.heap.objs.size + 3 := by rw [Heap.size_push, z2]
  have z4 : (zipH4 s.heap l1 l2).objs.size = s.heap.objs.size + 4 := by rw [Heap.size_push, z3]
  have g5 : (zipHk k s.heap l1 l2).get? (zipH4 s.heap l1 l2).objs.size = some _ := Heap.get?_push_size _ rfl
  have g4 : (zipHk k s.heap l1 l2).get? (zipH3 s.heap l1 l2).objs.size = some _ := Heap.get?_push_of_some _ (Heap.get?_push_size _ rfl)
  have g3 : (zipHk k s.heap l1 l2).get? (zipH2 s.heap l1 l2).objs.size = some _ := Heap.get?_push_of_some _ (Heap.get?_push_of_some _ (Heap.get?_push_size _ rfl))
  have g2 : (zipHk k s.heap l1 l2).get? (zipH1 s.heap l1).objs.size = some _ := Heap.get?_push_of_some _ (Heap.get?_push_of_some _ (Heap.get?_push_of_some _ (Heap.get?_push_size _ rfl)))
  have g1 : (zipHk k s.heap l1 l2).get? s.heap.objs.size = some _ := Heap.get?_push_of_some _ (Heap.get?_push_of_some _ (Heap.get?_push_of_some _ (Heap.get?_push_of_some _ (Heap.get?_push_size _ rfl))))
  show _ ∧ _
  rw [z2, z3, z4] at g5
  rw [z1, z2] at g3
  rw [z3] at g4
  rw [z1] at g2
  rw [z4]
  exact ⟨⟨_, g5, rfl⟩, h _ g5 g3 g4 ⟨_, g1, rfl, rfl⟩ ⟨_, g2, rfl, rfl⟩ fun c o x =>
    Heap.get?_push_of_some _ (Heap.get?_push_of_some _ (Heap.get?_push_of_some _ (Heap.get?_push_of_some _ (Heap.get?_push_of_some _ x))))⟩
theorem callWith_typeKwB {M : Model} {pos : Pos} {T : String} {first : List Value} {args : List (Bool × Sem Value)} {keywords : List (Option Str × Sem Value)} {Q : Value → Shared → Prop}
    (hplain : args.any (·.1) = false) (hkw : keywords.any (·.1.isNone) = false)
    (h : wpAny M A (evalArgs (.type T) true args keywords) (fun a s₁ => wpAny M A (call (.type T) (first ++ a.pos) a.kw) Q E s₁) E s) :
    wpAny M A (callWith pos (.type T) first args keywords) Q E s := by
  unfold callWith
  refine wpAny_bind (wpAny_holding (wpAny_mono h (fun a s₁ h₁ => wpAny_bind (wpAny_standAt ?_)) fun _ _ x => x))
  simp only [hplain, hkw, Bool.or_false]
  refine wpAny_bind (wpAny_pure ?_)
  exact wpAny_bind (wpAny_mono h₁ (fun r s₂ hr => wpAny_bind (wpAny_holding (wpAny_point (wpAny_pure hr)))) fun _ _ x => x)
theorem callWith_typeKw {M : Model} {env : PySem.Env} {pos : Pos} {T : String} {e : Expr} {rest : List Expr} {kws : List Keyword} {Q : Value → Shared → Prop}
    (h : wpAny M A (spliced (backTo pos (starEach (e :: rest) env))) (fun vs s₁ => wpAny M A (evalAll ((backToKw pos (keywordEach kws env)).map (·.2)))
      (fun kvs s₂ => wpAny M A (call (.type T) vs (((backToKw pos (keywordEach kws env)).filterMap (·.1)).zip kvs)) Q E s₂) E s₁) E s)
    (he : backTo pos (starEach (e :: rest) env) = (false, eval e env) :: backTo pos (starEach rest env) := by rfl)
    (hplain : (backTo pos (starEach (e :: rest) env)).any (·.1) = false := by rfl)
    (hall : (backToKw pos (keywordEach kws env)).all (·.1.isSome) = true := by rfl)
    (hkw : (backToKw pos (keywordEach kws env)).any (·.1.isNone) = false := by rfl) :
    wpAny M A (callWith pos (.type T) [] (backTo pos (starEach (e :: rest) env)) (backToKw pos (keywordEach kws env))) Q E s := by
  rw [he] at h hplain ⊢
  exact callWith_typeKwB hplain hkw (evalArgs_kwB hall h)
end
/-- as Itz, the end when both are through -/
def ItzS (K : PySem.W.Frag) (a b : Addr) : It :=
  ⟨(Itz K a b).go, (Itz K a b).yld, fun i H => ∃ xs ys : List V, SqL K H a xs ∧ SqL K H b ys ∧ xs.length ≤ i ∧ ys.length ≤ i⟩
theorem turn_zipS {P : Program} {w : World} {K : PySem.W.Frag} {elts : List Expr} {kk : Nat} {tpos : Pos} {a b z TI TO i1 i2 : Addr} (D : ZipApart z TI TO i1 i2 a b) :
    Turn P w K (.Tuple elts kk tpos) (ItzS K a b) [z, TI, TO, i1, i2] z (fun i h => IsZipS h z TI TO .none ∧ IsPair h TI (.ref i1) (.ref i2) ∧ (∃ x y, IsPair h TO x y) ∧ h.IsListIter i1 a i ∧ h.IsListIter i2 b i) where
  mem := by simp
  obj := fun i h st c hc => by
    obtain ⟨hz, hTI, ⟨x, y, hTO⟩, ⟨o1, e1, _, d1⟩, ⟨o2, e2, _, d2⟩⟩ := st
    have e' : c = z ∨ c = TI ∨ c = TO ∨ c = i1 ∨ c = i2 := by simpa using hc
    rcases e' with q | q | q | q | q
    · rw [q]; exact ⟨_, hz, fun v q => nomatch q⟩
    · rw [q]; exact ⟨_, hTI, fun v q => nomatch q⟩
    · rw [q]; exact ⟨_, hTO, fun v q => nomatch q⟩
    · rw [q]; exact ⟨o1, e1, fun v q => by rw [d1] at q; cases q⟩
    · rw [q]; exact ⟨o2, e2, fun v q => by rw [d2] at q; cases q⟩
  keep := fun i h h' st k => by
    obtain ⟨hz, hTI, ⟨x, y, hTO⟩, h1, h2⟩ := st
    exact ⟨k z (by simp) _ hz, k TI (by simp) _ hTI, ⟨x, y, k TO (by simp) _ hTO⟩, h1.at fun o q => k i1 (by simp) o q, h2.at fun o q => k i2 (by simp) o q⟩
  item := by
    intro X hP hw hK hc i pins s σ H E I hf st hg
    subst hP hw hK
    obtain ⟨hz, hTI, ⟨x0, y0, hTO⟩, h1, h2⟩ := st
    obtain ⟨xs, ys, x, y, hqx, hqy, hx, hy⟩ := hg
    obtain ⟨its, rv, p, _⟩ := I.list hqx
    obtain ⟨its2, rv2, p2, _⟩ := I.list hqy
    obtain ⟨u, hu, ru⟩ := rv.get hx
    obtain ⟨u2, hu2, ru2⟩ := rv2.get hy
    have hzl : z < s.heap.objs.size := Heap.lt_size hz
    refine pyNext_item D hz hTI hTO h1 h2 p.isList p2.isList (x := u) (y := u2) (by simpa using hu) (by simpa using hu2) fun h' z' TO' h1' h2' hT hsz hk => ?_
    refine ⟨_, rfl, letGo (s := { s with heap := h' }) z' fun h'' z'' sb => ?_⟩
    have hT2 : h''.get? s.heap.objs.size = some { cls := .type "tuple", data := .seq #[u, u2] } := (sb.2 _ (Nat.ne_of_gt hzl)).trans hT
    have new : ObjOk X.prog X.w (upd H s.heap.objs.size (.tup [x, y])) h'' s.heap.objs.size (.tup [x, y]) :=
      ⟨by show 2 ≤ sizeLine; decide, [u, u2], .cons ru (.cons ru2 .nil), ⟨_, hT2, rfl, _, rfl⟩⟩
    have I1 : Inv X pins σ (upd H s.heap.objs.size (.tup [x, y])) { s with heap := h'' } :=
      I.turnedNew (t' := s.toks) (ch := [z, TI, TO, i1, i2]) (fun c o hb q => (sb.2 c (fun q' => hb (by simp [q']))).trans (hk c o (fun q' => hb (by simp [q'])) (fun q' => hb (by simp [q'])) (fun q' => hb (by simp [q'])) (fun q' => hb (by simp [q'])) q)) hf (Nat.le_refl _) new
    refine ⟨.ref s.heap.objs.size, _, I1, rfl, ⟨_, x, y, rfl, I.hok.fresh (Nat.le_refl _), rfl, fun l hl => by rw [I.list_inj hl hqx]; exact hx, fun l hl => by rw [I.list_inj hl hqy]; exact hy⟩, ⟨z'', ?_, ⟨u, u2, ?_⟩, ?_, ?_⟩, fun c hcm => ?_⟩
    · exact (sb.2 _ D.TIz).trans (hk _ _ D.TIz D.TITO D.TIi1 D.TIi2 hTI)
    · exact (sb.2 _ D.TOz).trans TO'
    · exact h1'.at fun o q => (sb.2 _ D.i1z).trans q
    · exact h2'.at fun o q => (sb.2 _ D.i2z).trans q
    · have hlt : c < s.heap.objs.size := by
        have e' : c = z ∨ c = TI ∨ c = TO ∨ c = i1 ∨ c = i2 := by simpa using hcm
        rcases e' with q | q | q | q | q
        · rw [q]; exact hzl
        · rw [q]; exact Heap.lt_size hTI
        · rw [q]; exact Heap.lt_size hTO
        · rw [q]; obtain ⟨_, e1, _⟩ := h1; exact Heap.lt_size e1
        · rw [q]; obtain ⟨_, e2, _⟩ := h2; exact Heap.lt_size e2
      rw [upd_ne (Nat.ne_of_lt hlt)]
      exact (hf c hcm).1
  done := by
    intro X hP hw hK hc i pins s σ H E I hf st hg
    subst hP hw hK
    obtain ⟨hz, hTI, ⟨x0, y0, hTO⟩, h1, h2⟩ := st
    obtain ⟨xs, ys, hqx, hqy, hend⟩ := hg
    obtain ⟨its, rv, p, _⟩ := I.list hqx
    obtain ⟨its2, rv2, p2, _⟩ := I.list hqy
    have l1 := rv.length
    have l2 := rv2.length
    exact pyNext_end (I.ok.hd hc) D hz hTI hTO h1 h2 p.isList p2.isList (by simp; omega) (by simp; omega) fun h' hk => ⟨rfl, I.turnedL (t' := s.toks) (ch := [z, TI, TO, i1, i2]) (fun c o hb q =>
      hk c o (fun q' => hb (by simp [q'])) (fun q' => hb (by simp [q'])) (fun q' => hb (by simp [q'])) (fun q' => hb (by simp [q'])) q) hf⟩
  self := fun A i s Q E st h => pyIterS st.1 h

def iZipK (K : PySem.W.Frag) (k : Bool) (ta : TA) : TI := fun σ H R => ta σ H fun vs H1 => ∃ a b xs ys, vs = [.ref a, .ref b] ∧ SqL K H1 a xs ∧ SqL K H1 b ys ∧ R (if k = true then ItzS K a b else Itz K a b) H1
theorem pi_zipK {k : Bool} {X : Cx} {e e2 : Expr} {ta : TA} {p pos tpos kp : Pos} {j : Nat} {cp : Pos} {elts : List Expr} {kk : Nat} (hg : Gl X "zip") (hm : X.mg "zip" = none) (ha : PA X [e, e2] ta)
    (he : backTo pos (starEach [e, e2] X.env) = (false, eval e X.env) :: backTo pos (starEach [e2] X.env) := by rfl)
    (hplain : (backTo pos (starEach [e, e2] X.env)).any (·.1) = false := by rfl)
    (hall : (backToKw pos (keywordEach [⟨some "strict", .Constant (.bool k) j cp, kp⟩] X.env)).all (·.1.isSome) = true := by rfl)
    (hkw : (backToKw pos (keywordEach [⟨some "strict", .Constant (.bool k) j cp, kp⟩] X.env)).any (·.1.isNone) = false := by rfl)
    (hks : (backToKw pos (keywordEach [⟨some "strict", .Constant (.bool k) j cp, kp⟩] X.env)).filterMap (·.1) = [Str.ofString "strict"] := by rfl) :
    PI X (.Tuple elts kk tpos) (.Call (.Name "zip" p) [e, e2] [⟨some "strict", .Constant (.bool k) j cp, kp⟩] pos) (iZipK X.K k ta) := by
  refine ⟨fun pins s σ H R I h => ?_⟩
  refine wpAny_Call_Name_kw (ld_blt I hg hm PyProof.Rows.boot_zip (callWith_typeKw (thn (ha.run pos pins s σ H _ I h) fun us s1 ⟨vs, H1, I1, r1, q1⟩ => ?_) he hplain hall hkw))
  refine thn ((pk_cons (nm := some "strict") (kpos := kp) (pe_bl (X := X) (b := k) (j := j) (pos := cp)) pk_nil).run pos pins s1 σ H1 (fun zs H2 => zs = [.bl k] ∧ H2 = H1) I1 ⟨rfl, rfl⟩) fun ws s2 ⟨zs, H2, I2, rz, ez, e2⟩ => ?_
  subst ez e2
  obtain ⟨u, rfl, ru⟩ := vals1 rz
  cases ru
  rw [hks]
  obtain ⟨a, b, xs, ys, ex, hqx, hqy, q⟩ := q1
  subst ex
  cases r1 with
  | cons r rr =>
    cases rr with
    | cons r' rr =>
      cases rr
      cases r
      cases r'
      obtain ⟨its, rv, p1, _⟩ := I2.list hqx
      obtain ⟨its2, rv2, p2, _⟩ := I2.list hqy
      have la : a < s2.heap.objs.size := p1.lt
      have lb : b < s2.heap.objs.size := p2.lt
      refine call_zip_kw p1.isList p2.isList fun h' hz hTI hTO h1 h2 hk => ?_
      have I3 : Inv X pins σ H2 { s2 with heap := h' } := I2.kept (t' := s2.toks) hk
      have fp : ∀ c ∈ [s2.heap.objs.size + 4, s2.heap.objs.size + 2, s2.heap.objs.size + 3, s2.heap.objs.size, s2.heap.objs.size + 1], FpOk X pins H2 c := fun c hcm => by
        have e' : c = s2.heap.objs.size + 4 ∨ c = s2.heap.objs.size + 2 ∨ c = s2.heap.objs.size + 3 ∨ c = s2.heap.objs.size ∨ c = s2.heap.objs.size + 1 := by simpa using hcm
        have hle : s2.heap.objs.size ≤ c := by
          rcases e' with z | z | z | z | z
          · rw [z]; exact Nat.le_add_right _ _
          · rw [z]; exact Nat.le_add_right _ _
          · rw [z]; exact Nat.le_add_right _ _
          · rw [z]; exact Nat.le_refl _
          · rw [z]; exact Nat.le_add_right _ _
        exact I2.fpOk hle (I2.hok.fresh hle)
      cases k with
      | true =>
        exact pyIterS hz ⟨s2.heap.objs.size + 4, [s2.heap.objs.size + 4, s2.heap.objs.size + 2, s2.heap.objs.size + 3, s2.heap.objs.size, s2.heap.objs.size + 1], _, _, H2, rfl, I3, turn_zipS (PySem.W.ktu_apart s2.heap.objs.size a b la lb), ⟨hz, hTI, ⟨_, _, hTO⟩, h1, h2⟩, fp, q⟩
      | false =>
        exact wpAny_pyIter_zip hz ⟨s2.heap.objs.size + 4, [s2.heap.objs.size + 4, s2.heap.objs.size + 2, s2.heap.objs.size + 3, s2.heap.objs.size, s2.heap.objs.size + 1], _, _, H2, rfl, I3, turn_zip (PySem.W.ktu_apart s2.heap.objs.size a b la lb), ⟨hz, hTI, ⟨_, _, hTO⟩, h1, h2⟩, fp, q⟩
end ZS
namespace DL
open PySem PySem.Spec PyProof.Rows L2
section
variable {X : Cx} {B : Bs} {a b c : Expr} {fa fb fc : FE} {pos : Pos}
theorem zip_get {xs ys : List D} {i : Nat} {x : D} (h : (zipD xs ys)[i]? = some x) : ∃ y z, xs[i]? = some y ∧ ys[i]? = some z ∧ x = .tuple [y, z] := by
  unfold zipD at h
  rw [List.getElem?_map] at h
  cases e : (xs.zip ys)[i]? with
  | none => rw [e] at h; cases h
  | some p =>
    rw [e] at h
    obtain ⟨h1, h2⟩ := List.getElem?_zip_eq_some.mp e
    exact ⟨p.1, p.2, h1, h2, (Option.some.inj h).symm⟩
theorem zip_len {xs ys : List D} : (zipD xs ys).length = min xs.length ys.length := by unfold zipD; rw [List.length_map, List.length_zip]
theorem di_zipK {k : Bool} {elts : List Expr} {kk j : Nat} {tpos p0 kp cp : Pos} (ha : DE X B a fa) (hb : DE X B b fb) (hm : X.mg "zip" = none) (hg : Gl X "zip" := by rfl)
    (s1 : starEach (a :: [b]) X.env = (false, eval a X.env) :: starEach [b] X.env := by rfl) (s2 : starEach (b :: []) X.env = (false, eval b X.env) :: starEach [] X.env := by rfl)
    (he : backTo pos (starEach [a, b] X.env) = (false, eval a X.env) :: backTo pos (starEach [b] X.env) := by rfl)
    (hplain : (backTo pos (starEach [a, b] X.env)).any (·.1) = false := by rfl)
    (hall : (backToKw pos (keywordEach [⟨some "strict", .Constant (.bool k) j cp, kp⟩] X.env)).all (·.1.isSome) = true := by rfl)
    (hkw : (backToKw pos (keywordEach [⟨some "strict", .Constant (.bool k) j cp, kp⟩] X.env)).any (·.1.isNone) = false := by rfl)
    (hks : (backToKw pos (keywordEach [⟨some "strict", .Constant (.bool k) j cp, kp⟩] X.env)).filterMap (·.1) = [Str.ofString "strict"] := by rfl) :
    DI X B (.Tuple elts kk tpos) (.Call (.Name "zip" p0) [a, b] [⟨some "strict", .Constant (.bool k) j cp, kp⟩] pos) (iZip k fa fb) := by
  refine ⟨_, ZS.pi_zipK (k := k) hg hm (pa_cons ha (pa_cons hb pa_nil s2) s1) he hplain hall hkw hks, fun σ H env z Qd R S hf q0 => ⟨env, z, _, S, hf, fun v H1 x q g r => ⟨env, z, _, S.grow g, q, fun v2 H2 y q g2 r2 => ?_⟩⟩⟩
  have S2 := (S.grow g).grow g2
  have r1 := r.mono (sh_gr S.pool g2)
  cases x <;> cases y <;> try exact q.elim
  case list.list xs _ ys =>
    obtain ⟨hl, q⟩ := q
    obtain ⟨p1, us, rfl, z1, n1, h1, rr1⟩ := rp_place S2 r1
    obtain ⟨p2, ws, rfl, z2, n2, h2, rr2⟩ := rp_place S2 r2
    have at1 : ∀ {z' : Zn} {H' : Hp}, Fr B z H2 z' H' → H' p1 = some (.lst us) := fun F => (F.keep p1 _ n1 (fun j => by rw [z1]; exact fun q => nomatch q) h1).1
    have at2 : ∀ {z' : Zn} {H' : Hp}, Fr B z H2 z' H' → H' p2 = some (.lst ws) := fun F => (F.keep p2 _ n2 (fun j => by rw [z2]; exact fun q => nomatch q) h2).1
    have key : ∀ (J : It), (∀ i H, J.go i H = (Itz X.K p1 p2).go i H) → (∀ i H v H', J.yld i H v H' = (Itz X.K p1 p2).yld i H v H') → (∀ z' H', Fr B z H2 z' H' → J.stop (zipD xs ys).length H') → ItD X.K B z H2 J (zipD xs ys) := fun J eg ey es =>
      ⟨fun z' H' i x F Z hx => by
        obtain ⟨x1, x2, g1, g3, rfl⟩ := zip_get hx
        obtain ⟨u1, hu1, ru1⟩ := (rpl_fr S2.pool F rr1).get g1
        obtain ⟨u2, hu2, ru2⟩ := (rpl_fr S2.pool F rr2).get g3
        refine ⟨?_, fun v H'' w => ?_⟩
        · rw [eg]
          exact ⟨us, ws, u1, u2, .of (at1 F), .of (at2 F), hu1, hu2⟩
        · rw [ey] at w
          obtain ⟨T, y1, y2, rfl, nT, rfl, w1, w2⟩ := w
          have e1 := sq_one (at1 F) w1
          have e2 := sq_one (at2 F) w2
          rw [hu1] at e1
          rw [hu2] at e2
          cases e1; cases e2
          exact ⟨sub_upd nT, rp_tuple Z nT (.cons ru1 (.cons ru2 .nil))⟩, es⟩
    refine ⟨p1, p2, us, ws, rfl, .of h1, .of h2, q0 _ H2 _ q (g.trans g2) ?_⟩
    cases k with
    | true =>
      refine key _ (fun _ _ => rfl) (fun _ _ _ _ => rfl) fun z' H' F => ⟨us, ws, .of (at1 F), .of (at2 F), ?_, ?_⟩
      · rw [zip_len, rr1.length, hl rfl]; omega
      · rw [zip_len, rr2.length, hl rfl]; omega
    | false =>
      refine key _ (fun _ _ => rfl) (fun _ _ _ _ => rfl) fun z' H' F => ⟨us, ws, .of (at1 F), .of (at2 F), ?_⟩
      rw [zip_len, rr1.length, rr2.length]
      omega
end
end DL

set_option Elab.async false
set_option linter.all false
set_option maxRecDepth 100000
set_option maxHeartbeats 1000000
/-! DLI: the D-layer's rules: isinstance, is True, is False. -/
namespace DL
open PySem PySem.Spec PyProof.Rows L2
def tyD : D → String
  | .none => "NoneType"
  | .bool _ => "bool"
  | .int _ => "int"
  | .str _ => "str"
  | .list _ => "list"
  | .tuple _ => "tuple"
  | .dict _ => "dict"
def isIntD : D → Bool
  | .int _ => true
  | .bool _ => true
  | _ => false
def isBoolD : D → Bool
  | .bool _ => true
  | _ => false
def isStrD : D → Bool
  | .str _ => true
  | _ => false
def isListD : D → Bool
  | .list _ => true
  | _ => false
def isTupD : D → Bool
  | .tuple _ => true
  | _ => false
def isDictD : D → Bool
  | .dict _ => true
  | _ => false
def gIsI (p : D → Bool) : D → (D → Prop) → Prop := fun x Q => Q (.bool (p x))
def KitD (ty : String) (p : D → Bool) : Prop := ∀ x, kitB (tyD x) ty = some (p x)
theorem k_int : KitD "int" isIntD := fun x => by cases x <;> first | decide +kernel | rfl
theorem k_bool : KitD "bool" isBoolD := fun x => by cases x <;> first | decide +kernel | rfl
theorem k_str : KitD "str" isStrD := fun x => by cases x <;> first | decide +kernel | rfl
theorem k_list : KitD "list" isListD := fun x => by cases x <;> first | decide +kernel | rfl
theorem k_tuple : KitD "tuple" isTupD := fun x => by cases x <;> first | decide +kernel | rfl
theorem k_dict : KitD "dict" isDictD := fun x => by cases x <;> first | decide +kernel | rfl
theorem rp_ty {K : PySem.W.Frag} {G : Hp} {v : V} {x : D} (r : Rp K G v x) : TyX K G v (.type (tyD x)) := by
  cases r with
  | non => exact .base .non
  | bl b => exact .base (.bl b)
  | int i => exact .base (.int i)
  | str s => exact .base (.str s)
  | lst h t => exact .base (.lst h)
  | tup h t =>
    rcases h with (h | ⟨o, h⟩) | ⟨o, its, n, h, c, _⟩
    · exact .base (.tup h)
    · exact .fTuple h
    · exact .kTuple h c
theorem tyx_sub {K : PySem.W.Frag} {G H : Hp} {v : V} {t : Value} (s : Sub G H) (h : TyX K G v t) : TyX K H v t := by
  cases h with
  | base h =>
    cases h with
    | lst e => exact .base (.lst (s _ _ e))
    | frz e => exact .base (.frz (s _ _ e))
    | tup e => exact .base (.tup (s _ _ e))
    | dK e => exact .base (.dK (s _ _ e))
    | dT e => exact .base (.dT (s _ _ e))
    | ins e a b c d f => exact .base (.ins (s _ _ e) a b c d f)
    | non => exact .base .non
    | bl b => exact .base (.bl b)
    | int b => exact .base (.int b)
    | str b => exact .base (.str b)
    | flt b => exact .base (.flt b)
  | byt b => exact .byt b
  | set e => exact .set (s _ _ e)
  | kList e c => exact .kList e c
  | kTuple e c => exact .kTuple e c
  | kDict e c => exact .kDict e c
  | fTuple e => exact .fTuple (s _ _ e)
  | fDict e => exact .fDict (s _ _ e)
theorem trp_ty {K : PySem.W.Frag} {B : Bs} {z : Zn} {H : Hp} {v : V} {x : D} (r : TRp K B z H v x) : TyX K H v (.type (tyD x)) := by
  rcases r with r | ⟨a, vs, ds, rfl, rfl, h, _⟩
  · exact tyx_sub (Sh.sub z H) (rp_ty r)
  · exact .base (.lst h)
section
variable {X : Cx} {B : Bs} {a b c : Expr} {fa fb fc : FE} {pos : Pos}
theorem de_isi {ty : String} {T : Str} {p : D → Bool} {p0 p1 : Pos} (hk : KitD ty p) (hm : X.mg "isinstance" = none) (ht : X.mg T = none) (ha : DR X B a fa) (hv : bootBuiltins T = some (.type ty) := by decide +kernel)
    (hg : Gl X "isinstance" := by rfl) (hgt : Gl X T := by rfl) (hn : T ≠ "__name__" := by decide) (hd : (T == ("__debug__" : Str)) = false := by decide)
    (s1 : starEach (a :: [Expr.Name T p1]) X.env = (false, eval a X.env) :: starEach [Expr.Name T p1] X.env := by rfl) (s2 : starEach (Expr.Name T p1 :: []) X.env = (false, eval (Expr.Name T p1) X.env) :: starEach [] X.env := by rfl)
    (hpl : (backTo pos (starEach [Expr.Name T p1] X.env)).any (·.1) = false := by rfl) : DE X B (.Call (.Name "isinstance" p0) [a, .Name T p1] [] pos) (fUn (gIsI p) fa) := by
  refine (pe_callB call_isi hg hm (by decide +kernel) (pa_cons ha (pa_cons (pe_bltn (v := .ty ty) hgt ht hv rfl hn hd) pa_nil s2) s1) (by decide) (by decide) s1 hpl).wk fun σ H Q ⟨env, z, Qd, S, hf, k⟩ => ?_
  refine ⟨env, z, _, S, hf, fun v H1 x q g r => ?_⟩
  exact ⟨v, .ty ty, .type (tyD x), .type ty, p x, rfl, .ty ty, trp_ty r, kit_ty (hk x), k _ H1 _ q g (.bl _)⟩
/-- a is True, a is not True, .. -/
def gIsB : D → D → (D → Prop) → Prop
  | x, .bool b, Q => Q (.bool (isBool x b))
  | _, _, _ => False
def gNotB : D → D → (D → Prop) → Prop
  | x, .bool b, Q => Q (.bool (!isBool x b))
  | _, _, _ => False
def isBV (v : V) (b : Bool) : Bool := match v with | .bl a => a == b | _ => false
theorem isBool_rp {K : PySem.W.Frag} {z : Zn} {H : Hp} {v : V} {x : D} {b : Bool} (r : TRp K B z H v x) : isBV v b = isBool x b := by
  rcases r with r | ⟨a, vs, ds, rfl, rfl, _⟩
  · cases r <;> rfl
  · rfl
theorem relV_bool {v : V} {u : Value} {b : Bool} (r : RelV v u) (ne : ∀ y, v ≠ .bl y) : u ≠ .bool b := by
  intro e
  subst e
  cases v <;> first
    | exact ne _ rfl
    | (cases (show _ = _ from r))
    | (obtain ⟨t, q⟩ := r; cases q)
theorem op_isB2 : OpR X (compareOp .Is) (fun x y H Q => ∃ b, y = .bl b ∧ Q (.bl (isBV x b)) H) := by
  intro pins s σ H x y v u Q I rx ry h
  obtain ⟨b, rfl, q⟩ := h
  cases (show u = Value.bool b from ry)
  by_cases hb : ∃ y, x = .bl y
  · obtain ⟨y, rfl⟩ := hb
    cases (show v = Value.bool y from rx)
    by_cases e : y = b
    · subst e
      refine wpAny_is_self rfl ⟨.bl true, H, I, rfl, ?_⟩
      have : isBV (.bl y) y = true := by simp [isBV]
      rw [this] at q; exact q
    · refine wpAny_is_other rfl (fun z => e (Value.bool.inj z)) ⟨.bl false, H, I, rfl, ?_⟩
      have : isBV (.bl y) b = false := by simp [isBV, e]
      rw [this] at q; exact q
  · have hne : ∀ y, x ≠ .bl y := fun y e => hb ⟨y, e⟩
    have ev : isBV x b = false := by cases x <;> first | rfl | exact absurd rfl (hne _)
    rw [ev] at q
    have hp : plainIs v (.bool b) = true := by
      cases x <;> first
        | exact absurd rfl (hne _)
        | (cases (show v = _ from rx); rfl)
        | (obtain ⟨t, rfl⟩ := rx; rfl)
    exact wpAny_is_other hp (relV_bool rx hne) ⟨.bl false, H, I, rfl, q⟩
theorem cd_isB : CmpD X B .Is gIsB := ⟨_, op_isB2, fun z H x y d e Qd Q k rx ry hg q => by
  cases e <;> try (cases d <;> exact hg.elim)
  case bool b =>
    cases ry.bool
    refine ⟨b, rfl, ?_⟩
    rw [isBool_rp rx]
    exact q _ H _ hg (Gr.refl H) (.bl _)⟩
end
end DL
namespace DL
open PySem PySem.Spec PyProof.Rows L2
section
variable {P : Program} {w : World} {mg : Str → Option Value} {base : Heap} {K : PySem.W.Frag}
/-- level 0 of a def that calls itself: nothing is promised -/
theorem fnd_zero {x : Str} {st : Stmt} {N ps : List Str} (D : DefAt K mg x st) (sc : FnScope N ps (defScope st))
    (hbd : ∀ (kV doc pm : Value) (an : Option Addr) (cdv ct : Value) (us : List Value), us.length = ps.length → bindArgs (PySem.W.fnOf x x (defArgs st) (defBody st) (defScope st) .none kV doc pm an cdv ct) ⟨us, []⟩ = pure (ps.zip us)) :
    Fnd P w K mg base 0 x ps.length (fun _ _ => False) := by
  obtain ⟨f, fd, F, g⟩ := D
  exact ⟨f, fd, ps, ⟨fun vs H Q E ⟨z, po, args, Qd, S, ok, hn, hw, q⟩ => hn, fun A outer s H args us vs Q E _ _ _ _ ⟨z, po, args', Qd, S, ok, hn, hw, q⟩ => hw.elim⟩, g, F.kp, F.bindsN hbd⟩
end
end DL

set_option Elab.async false
set_option linter.all false
set_option maxRecDepth 100000
set_option maxHeartbeats 1000000
/-! DLP: the law's pool of numbers: promises of its defs over the hand layer, and as semantics of the D-layer. -/
namespace DL
open PySem PySem.Spec PyProof.Rows L2
theorem iteB {b : Bool} {p q : Prop} (h1 : b = true → p) (h2 : b = false → q) : if b = true then p else q := by cases b with | true => exact h1 rfl | false => exact h2 rfl
theorem atI_ints {ns : List Int} {i : Int} (h0 : 0 ≤ i) (h1 : i < ((ns.map V.int).length : Int)) : ∃ v, atI (ns.map V.int) i = some (.int v) := by
  obtain ⟨j, rfl⟩ := Int.eq_ofNat_of_zero_le h0
  have hj : j < ns.length := by rw [List.length_map] at h1; omega
  exact ⟨ns[j], atI_nat (by rw [List.getElem?_map, List.getElem?_eq_getElem hj]; rfl)⟩
def spMixed : Sp := fun vs H Q _ => ∃ (p f : Int), vs = [.int p, .int f] ∧ ∀ (v : Int) H', DL.Sub H H' → Q (.int v) H'
def spRest (K : PySem.W.Frag) : Sp := fun vs H Q _ => ∃ (a : Addr) (ns : List Int) (p f : Int), vs = [.ref a, .int p, .int f] ∧ SqL K H a (ns.map V.int) ∧ ∀ (v : Int) H', DL.Sub H H' → Q (.int v) H'
def tRest (K : PySem.W.Frag) : TS := fun D σ H => ∃ (a : Addr) (ns : List Int) (p f n : Int), σ = [some (.ref a), some (.int p), some (.int f), some (.int n)] ∧ SqL K H a (ns.map V.int) ∧ ∀ (v : Int) H', DL.Sub H H' → D.rt (.int v) H'
def spPool (K : PySem.W.Frag) : Sp := fun vs H Q _ => ∃ (a : Addr) (ns : List Int), vs = [.ref a] ∧ SqL K H a (ns.map V.int) ∧ ∀ (l : Addr) (v : Int) H1, DL.Sub H H1 → H1 l = none → Q (.ref l) (upd H1 l (.lst [.ref a, .int 0, .int v, .int 0]))
/-- the pool stands in H; all else of H0 is kept -/
structure PoolK (K : PySem.W.Frag) (p : PoolAt) (H0 H : Hp) : Prop where
  ok : PoolOk K p H
  keep : ∀ a o, a ≠ p.pa → H0 a = some o → H a = some o
theorem PoolK.grow {K : PySem.W.Frag} {p : PoolAt} {H0 H H' : Hp} (h : PoolK K p H0 H) (s : DL.Sub H H') : PoolK K p H0 H' := ⟨h.ok.grow s, fun a o n e => s a o (h.keep a o n e)⟩
theorem PoolK.set {K : PySem.W.Frag} {p : PoolAt} {H0 H : Hp} (h : PoolK K p H0 H) (x y z : Int) : PoolK K p H0 (upd H p.pa (.lst [.ref p.sa, .int x, .int y, .int z])) := by
  obtain ⟨⟨n, s, a, b, c, e⟩, k⟩ := h
  exact ⟨⟨n, s.upd, x, y, z, upd_same⟩, fun a o hn ea => by rw [upd_ne hn]; exact k a o hn ea⟩
def spNext (K : PySem.W.Frag) : Sp := fun vs H Q _ => ∃ p : PoolAt, vs = [.ref p.pa] ∧ PoolOk K p H ∧ ∀ H', PoolK K p H H' → Q .non H'
def spDraw (K : PySem.W.Frag) : Sp := fun vs H Q _ => ∃ (p : PoolAt) (n : Int), vs = [.ref p.pa, .int n] ∧ PoolOk K p H ∧ 0 < n ∧ n.natAbs.log2 < 9000 ∧ ∀ (v : Int) H', 0 ≤ v → v < n → PoolK K p H H' → Q (.int v) H'
def tNextP (K : PySem.W.Frag) : TS := fun D σ H => ∃ (p : PoolAt) (H0 : Hp), σ = [some (.ref p.pa)] ∧ PoolK K p H0 H ∧ ∀ H', PoolK K p H0 H' → D.nx σ H'
def tDrawP (K : PySem.W.Frag) : TS := fun D σ H => ∃ (p : PoolAt) (n : Int) (o : Option V) (H0 : Hp), σ = [some (.ref p.pa), some (.int n), o] ∧ PoolK K p H0 H ∧ 0 < n ∧ n.natAbs.log2 < 9000 ∧ ∀ (v : Int) H', 0 ≤ v → v < n → PoolK K p H0 H' → D.rt (.int v) H'
def tDrawV (K : PySem.W.Frag) : TS := fun D σ H => ∃ (p : PoolAt) (n v : Int) (H0 : Hp), σ = [some (.ref p.pa), some (.int n), some (.int v)] ∧ PoolK K p H0 H ∧ 0 < n ∧ n.natAbs.log2 < 9000 ∧ ∀ H', PoolK K p H0 H' → D.rt (.int v) H'
/-! as semantics -/
def W__law_draw : W := fun args Q => match args with
  | [.pool, .d (.int n)] => 0 < n ∧ n.natAbs.log2 < 9000 ∧ ∀ v : Int, 0 ≤ v → v < n → Q (.int v)
  | _ => False
def W__law_next : W := fun args Q => match args with
  | [.pool] => Q .none
  | _ => False
section
variable {P : Program} {w : World} {mg : Str → Option Value} {base : Heap} {K : PySem.W.Frag}
theorem gr_pool {p : PoolAt} {z : Zn} {po : Option PoolAt} {H H' : Hp} (e : po = some p) (h : PoolK K p H H') : Gr K ⟨H, z, po⟩ H H' :=
  ⟨fun a o n ea => h.keep a o (fun q => n ⟨p, e, q⟩) ea, fun q eq _ => by
    have : po = some q := eq
    rw [e] at this
    cases this
    exact h.ok⟩
theorem imp_draw (vs : List V) (H : Hp) (Q : VK) (E : XK) (h : spD K 2 W__law_draw vs H Q E) : spDraw K vs H Q E := by
  obtain ⟨z, po, args, Qd, S, ok, hn, hw, q⟩ := h
  unfold W__law_draw at hw
  split at hw
  · cases ok with
    | cons h1 t =>
      cases t with
      | cons h2 t =>
        cases t
        obtain ⟨p, e, rfl⟩ := h1
        cases h2
        exact ⟨p, _, rfl, S.pk p e, hw.1, hw.2.1, fun v H' g1 g2 g3 => q _ H' _ (hw.2.2 v g1 g2) (gr_pool e g3) (.int _)⟩
  · exact hw.elim
theorem imp_next (vs : List V) (H : Hp) (Q : VK) (E : XK) (h : spD K 1 W__law_next vs H Q E) : spNext K vs H Q E := by
  obtain ⟨z, po, args, Qd, S, ok, hn, hw, q⟩ := h
  unfold W__law_next at hw
  split at hw
  · cases ok with
    | cons h1 t =>
      cases t
      obtain ⟨p, e, rfl⟩ := h1
      exact ⟨p, rfl, S.pk p e, fun H' g3 => q _ H' _ hw (gr_pool e g3) .non⟩
  · exact hw.elim
/-- a def of two ints, by its semantics -/
theorem imp_mixed {f : W} (hf : ∀ (p q : Int) (Q : D → Prop), (∀ v : Int, Q (.int v)) → f [.d (.int p), .d (.int q)] Q) (vs : List V) (H : Hp) (Q : VK) (E : XK) (h : spMixed vs H Q E) : spD K 2 f vs H Q E := by
  obtain ⟨a, b, rfl, q⟩ := h
  refine ⟨fun _ => none, none, [.d (.int a), .d (.int b)], fun x => ∃ v : Int, x = .int v, ⟨fun _ h => absurd rfl h, fun _ h => absurd rfl h, fun _ h => (by obtain ⟨_, e, _⟩ := h; cases e), fun _ e => (by cases e)⟩, .cons (.int _) (.cons (.int _) .nil), rfl, hf _ _ _ fun v => ⟨v, rfl⟩, ?_⟩
  rintro v H' x ⟨i, rfl⟩ g r
  cases r
  exact q i H' fun a o e => g.keep a o (fun h => by obtain ⟨_, e, _⟩ := h; cases e) e
end
/-! the law's beginning: all that stands is not shared, but the pool may turn -/
def hotZ (H : Hp) : Zn := fun a => match H a with | none => none | some _ => some 0
theorem hotZ_none {H : Hp} {a : Addr} (h : hotZ H a ≠ none) : H a ≠ none := fun e => h (by unfold hotZ; rw [e])
theorem hotZ_some {H : Hp} {a : Addr} (h : H a ≠ none) : hotZ H a = some 0 := by
  unfold hotZ
  cases e : H a with
  | none => exact absurd e h
  | some o => rfl
theorem sim_law {K : PySem.W.Frag} {σ : L2.St} {H : Hp} {p : PoolAt} {n : Nat} (hp : PoolOk K p H) (h1 : σ[1]?.join = some (.ref p.pa)) (hl : n + 2 ≤ σ.length) :
    Sim K ⟨H, hotZ H, some p⟩ (.un :: .pool :: List.replicate n .un) (hotZ H) σ H where
  gr := Gr.refl _
  hot := fun a h => hotZ_some (hotZ_none h)
  own := fun a h => .inl h
  live := fun a h => hotZ_none h
  live0 := fun a h => hotZ_none h
  pz := fun a h => by
    obtain ⟨q, e, rfl⟩ := h
    cases e
    obtain ⟨_, _, x, y, w, u⟩ := hp
    show hotZ H p.pa ≠ none
    rw [hotZ_some (by rw [u]; exact fun q => nomatch q)]
    exact fun q => nomatch q
  pk := fun q e => by cases e; exact hp
  pk0 := fun q e => by cases e; exact hp
  len := by simp; omega
  sl := fun i s e => by
    match i, e with
    | 0, e => cases e; trivial
    | 1, e => cases e; exact ⟨p, rfl, h1⟩
    | i + 2, e =>
      rw [List.getElem?_cons_succ, List.getElem?_cons_succ, List.getElem?_replicate] at e
      split at e
      · cases e; trivial
      · cases e
theorem pss_ex {X : Cx} {β : Type} {st : List Stmt} {t : β → TS} (h : ∀ b, PSs X st (t b)) : PSs X st (fun D σ H => ∃ b, t b D σ H) := ⟨fun pins s σ H D I ⟨b, q⟩ => (h b).run pins s σ H D I q⟩
def spLaw (K : PySem.W.Frag) : Sp := fun vs H Q _ => ∃ (a : Addr) (ns : List Int), vs = [.ref a] ∧ SqL K H a (ns.map V.int) ∧ ∀ H', Q (.bl true) H'
/-- what stands behind the pool's making -/
theorem law_start {K : PySem.W.Frag} {H H1 : Hp} {a l : Addr} {ns : List Int} {v : Int} {σ : L2.St} {n : Nat} {f : FS} {D : L2.Ends} (hS : SqL K H a (ns.map V.int)) (hs : DL.Sub H H1) (hl : H1 l = none)
    (h1 : σ[1]?.join = some (.ref l)) (hn : n + 2 ≤ σ.length) (hf : ∀ E : DEnds, E.rt (.bool true) → f E (.un :: .pool :: List.replicate n .un)) (q : ∀ H', D.rt (.bl true) H') :
    ∃ B, liftS K B f D σ (upd H1 l (.lst [.ref a, .int 0, .int v, .int 0])) := by
  have hsc : PSc K ⟨l, a, ns⟩ H1 := by
    rcases hS with h | h
    · refine .inl ⟨fun e => ?_, hs.rd h⟩
      have e : a = l := e
      subst e
      rcases h with h | ⟨u, h⟩
      · rw [hs _ _ h] at hl; cases hl
      · rw [hs _ _ h] at hl; cases hl
    · exact .inr h
  have hp : PoolOk K ⟨l, a, ns⟩ (upd H1 l (.lst [.ref a, .int 0, .int v, .int 0])) := ⟨trivial, PSc.upd (p := ⟨l, a, ns⟩) hsc, 0, v, 0, upd_same⟩
  refine ⟨⟨_, hotZ _, some ⟨l, a, ns⟩⟩, _, _, ⟨fun _ => False, fun x => x = .bool true, fun _ => False, fun _ => False⟩, sim_law (n := n) hp h1 hn, hf _ rfl, fun _ _ _ _ h => h.elim, fun x v H' e g r => ?_, fun _ _ _ _ h => h.elim, fun _ _ _ _ h => h.elim⟩
  have e : x = .bool true := e
  subst e
  cases r
  exact q H'
end DL

set_option Elab.async false
set_option linter.all false
set_option maxRecDepth 100000
/-! SExact: printed by gen.py: the semantics of defs over data. -/
namespace TW
open PySem DL
def B_frac : FS := (sSeq (sIf (fB (fBin gLtI (fVarT 1) (fC (.int 0))))
 (sPar 0 1 (fUn gNeg (fVarT 0)) (fUn gNeg (fVarT 1)))
 sNext)
 (sSeq (sAsg (fBlt bGcd (fsCons (fVarT 0) (fsCons (fVarT 1) fsNil))) (gNm 2))
 (sRet (fTup (fsCons (fBin gDiv (fVarT 0) (fVarT 2)) (fsCons (fBin gDiv (fVarT 1) (fVarT 2)) fsNil))))))
def W_frac : W := runD 3 B_frac
def B_plus : FS := (sRet (fCall W_frac (faD (fBin gAdd (fBin gMul (fBin gIx (fVarT 0) (fC (.int 0))) (fBin gIx (fVarT 1) (fC (.int 1)))) (fBin gMul (fBin gIx (fVarT 1) (fC (.int 0))) (fBin gIx (fVarT 0) (fC (.int 1))))) (faD (fBin gMul (fBin gIx (fVarT 0) (fC (.int 1))) (fBin gIx (fVarT 1) (fC (.int 1)))) faNil))))
def W_plus : W := runD 2 B_plus
def B_minus : FS := (sRet (fCall W_frac (faD (fBin gSub (fBin gMul (fBin gIx (fVarT 0) (fC (.int 0))) (fBin gIx (fVarT 1) (fC (.int 1)))) (fBin gMul (fBin gIx (fVarT 1) (fC (.int 0))) (fBin gIx (fVarT 0) (fC (.int 1))))) (faD (fBin gMul (fBin gIx (fVarT 0) (fC (.int 1))) (fBin gIx (fVarT 1) (fC (.int 1)))) faNil))))
def W_minus : W := runD 2 B_minus
def B_times : FS := (sRet (fCall W_frac (faD (fBin gMul (fBin gIx (fVarT 0) (fC (.int 0))) (fBin gIx (fVarT 1) (fC (.int 0)))) (faD (fBin gMul (fBin gIx (fVarT 0) (fC (.int 1))) (fBin gIx (fVarT 1) (fC (.int 1)))) faNil))))
def W_times : W := runD 2 B_times
def B_over : FS := (sRet (fCall W_frac (faD (fBin gMul (fBin gIx (fVarT 0) (fC (.int 0))) (fBin gIx (fVarT 1) (fC (.int 1)))) (faD (fBin gMul (fBin gIx (fVarT 0) (fC (.int 1))) (fBin gIx (fVarT 1) (fC (.int 0)))) faNil))))
def W_over : W := runD 2 B_over
def B_less : FS := (sRet (fBin gLtI (fBin gMul (fBin gIx (fVarT 0) (fC (.int 0))) (fBin gIx (fVarT 1) (fC (.int 1)))) (fBin gMul (fBin gIx (fVarT 1) (fC (.int 0))) (fBin gIx (fVarT 0) (fC (.int 1))))))
def W_less : W := runD 2 B_less
def B_sum_of : FS := (sSeq (sAsg (fC (.tuple [.int 0, .int 1])) (gNm 1))
 (sSeq (sFor (iLst (fVar 0)) (gNm 2)
 (sAsg (fCall W_plus (faD (fVar 1) (faD (fVar 2) faNil))) (gNm 1)))
 (sRet (fVar 1))))
def W_sum_of : W := runD 3 B_sum_of
end TW

set_option Elab.async false
set_option linter.all false
set_option maxRecDepth 100000
/-! SLaw: printed by gen.py: the semantics of defs over data. -/
namespace TW
open PySem DL
def B__law_mixed : FS := (sSeq (sAsg (fBin gMod (fBlt bInt (fsCons (fBin gAdd (fBin gAdd (fBin gMul (fVarT 0) (fC (.int 48271))) (fBin gMul (fVarT 1) (fC (.int 69621)))) (fC (.int 11))) fsNil)) (fC (.int 618970019642690137449562111))) (gNm 2))
 (sSeq (sAsg (fBin gMod (fBlt bInt (fsCons (fBin gAdd (fBin gAdd (fBin gMul (fVarT 2) (fVarT 2)) (fBin gMul (fC (.int 7)) (fVarT 2))) (fVarT 1)) fsNil)) (fC (.int 162259276829213363391578010288127))) (gNm 3))
 (sSeq (sAsg (fBin gMod (fBlt bInt (fsCons (fBin gAdd (fBin gMul (fVarT 3) (fVarT 3)) (fVarT 2)) fsNil)) (fC (.int 618970019642690137449562111))) (gNm 4))
 (sRet (fBin gAdd (fBin gMul (fVarT 3) (fC (.int 618970019642690137449562111))) (fVarT 4))))))
def W__law_mixed : W := runD 5 B__law_mixed
def B__law_gcd : FS := (sSeq (sFor (iRng (fsCons (fC (.int 400000)) fsNil)) (gNm 2)
 (sSeq (sIf (fB (fBin gEq (fVarT 1) (fC (.int 0))))
 sBrk
 sNext)
 (sPar 0 1 (fVar 1) (fBin gMod (fBlt bInt (fsCons (fVarT 0) fsNil)) (fVarT 1)))))
 (sRet (fVar 0)))
def W__law_gcd : W := runD 3 B__law_gcd
def B__law_ratio : FS := (sSeq (sIf (fB (fBin gLtI (fVarT 1) (fC (.int 0))))
 (sPar 0 1 (fUn gNeg (fVarT 0)) (fUn gNeg (fVarT 1)))
 sNext)
 (sSeq (sAsg (fCall W__law_gcd (faD (fBlt bAbs (fsCons (fVarT 0) fsNil)) (faD (fVar 1) faNil))) (gNm 2))
 (sRet (fTup (fsCons (fBin gDiv (fVarT 0) (fVarT 2)) (fsCons (fBin gDiv (fVarT 1) (fVarT 2)) fsNil))))))
def W__law_ratio : W := runD 3 B__law_ratio
def B__law_length : FS := (sRet (fCall W__law_ratio (faD (fBin gAdd (fC (.int 1)) (fCall W__law_draw (faPool 0 (faD (fC (.int 24)) faNil)))) (faD (fBin gAdd (fC (.int 1)) (fCall W__law_draw (faPool 0 (faD (fC (.int 3)) faNil)))) faNil))))
def W__law_length : W := runD 1 B__law_length
def B__law_part : FS := (sRet (fCall W__law_ratio (faD (fBin gMul (fBin gIx (fVarT 1) (fC (.int 0))) (fCall W__law_draw (faPool 0 (faD (fBin gAdd (fVarT 2) (fC (.int 1))) faNil)))) (faD (fBin gMul (fBin gIx (fVarT 1) (fC (.int 1))) (fVarT 2)) faNil))))
def W__law_part : W := runD 3 B__law_part
def B__law_less : FS := (sRet (fBin gLtI (fBin gMul (fBin gIx (fVarT 0) (fC (.int 0))) (fBin gIx (fVarT 1) (fC (.int 1)))) (fBin gMul (fBin gIx (fVarT 1) (fC (.int 0))) (fBin gIx (fVarT 0) (fC (.int 1))))))
def W__law_less : W := runD 2 B__law_less
def B__law_loads : FS := (sSeq (sOwn 3 (nLst fsNil))
 (sSeq (sFor (iRng (fsCons (fCall W__law_draw (faPool 0 (faD (fBin gAdd (fVarT 2) (fC (.int 1))) faNil))) fsNil)) (gNm 4)
 (sSeq (sIf (fB (fBin gEq (fBin gMod (fBlt bInt (fsCons (fVarT 4) fsNil)) (fC (.int 2))) (fC (.int 1))))
 (sDrop (fCall W__law_next (faPool 0 faNil)))
 sNext)
 (sSeq (sAsg (fCall W__law_ratio (faD (fBin gSub (fCall W__law_draw (faPool 0 (faD (fC (.int 13)) faNil))) (fC (.int 4))) (faD (fBin gAdd (fC (.int 1)) (fCall W__law_draw (faPool 0 (faD (fC (.int 3)) faNil)))) faNil))) (gNm 5))
 (sSeq (sAsg (fCall W__law_part (faPool 0 (faD (fVar 1) (faD (fC (.int 6)) faNil)))) (gNm 6))
 (sSeq (sAsg (fCall W__law_part (faPool 0 (faD (fVar 1) (faD (fC (.int 6)) faNil)))) (gNm 7))
 (sIf (fOr (fB (fBin gEq (fCall W__law_draw (faPool 0 (faD (fC (.int 2)) faNil))) (fC (.int 0)))) (fB (fBin gEq (fVarT 6) (fVarT 7))))
 (sApp 3 (fTup (fsCons (fC (.str "point")) (fsCons (fVar 6) (fsCons (fVar 5) fsNil)))))
 (sIf (fTru (fCall W__law_less (faD (fVar 6) (faD (fVar 7) faNil))))
 (sApp 3 (fTup (fsCons (fC (.str "spread")) (fsCons (fVar 6) (fsCons (fVar 7) (fsCons (fVar 5) fsNil))))))
 (sApp 3 (fTup (fsCons (fC (.str "spread")) (fsCons (fVar 7) (fsCons (fVar 6) (fsCons (fVar 5) fsNil)))))))))))))
 (sFrz 3 (sRet (fVar 3)))))
def W__law_loads : W := runD 8 B__law_loads
def B__law_add : FS := (sRet (fCall W__law_ratio (faD (fBin gAdd (fBin gMul (fBin gIx (fVarT 0) (fC (.int 0))) (fBin gIx (fVarT 1) (fC (.int 1)))) (fBin gMul (fBin gIx (fVarT 1) (fC (.int 0))) (fBin gIx (fVarT 0) (fC (.int 1))))) (faD (fBin gMul (fBin gIx (fVarT 0) (fC (.int 1))) (fBin gIx (fVarT 1) (fC (.int 1)))) faNil))))
def W__law_add : W := runD 2 B__law_add
def B__law_total_k29 : FS := (sSeq (sAsg (fTup (fsCons (fC (.int 0)) (fsCons (fC (.int 1)) fsNil))) (gNm 1))
 (sSeq (sFor (iLst (fVar 0)) (gNm 2)
 (sAsg (fCall W__law_add (faD (fVar 1) (faD (fVar 2) faNil))) (gNm 1)))
 (sRet (fVar 1))))
def W__law_total_k29 : W := runD 3 B__law_total_k29
def B__law_mul : FS := (sRet (fCall W__law_ratio (faD (fBin gMul (fBin gIx (fVarT 0) (fC (.int 0))) (fBin gIx (fVarT 1) (fC (.int 0)))) (faD (fBin gMul (fBin gIx (fVarT 0) (fC (.int 1))) (fBin gIx (fVarT 1) (fC (.int 1)))) faNil))))
def W__law_mul : W := runD 2 B__law_mul
def B__law_sub : FS := (sRet (fCall W__law_ratio (faD (fBin gSub (fBin gMul (fBin gIx (fVarT 0) (fC (.int 0))) (fBin gIx (fVarT 1) (fC (.int 1)))) (fBin gMul (fBin gIx (fVarT 1) (fC (.int 0))) (fBin gIx (fVarT 0) (fC (.int 1))))) (faD (fBin gMul (fBin gIx (fVarT 0) (fC (.int 1))) (fBin gIx (fVarT 1) (fC (.int 1)))) faNil))))
def W__law_sub : W := runD 2 B__law_sub
def B__law_force : FS := (sSeq (sIf (fB (fBin gEq (fBin gIx (fVarT 0) (fC (.int 0))) (fC (.str "point"))))
 (sRet (fBin gIx (fVarT 0) (fC (.int 2))))
 sNext)
 (sRet (fCall W__law_mul (faD (fBin gIx (fVarT 0) (fC (.int 3))) (faD (fCall W__law_sub (faD (fBin gIx (fVarT 0) (fC (.int 2))) (faD (fBin gIx (fVarT 0) (fC (.int 1))) faNil))) faNil)))))
def W__law_force : W := runD 1 B__law_force
def B__law_balances_k29 : FS := (sSeq (sIf (fB (fBin gNe (fBlt bLen (fsCons (fVarT 2) fsNil)) (fBlt bLen (fsCons (fVarT 0) fsNil))))
 (sRet (fC (.bool false)))
 sNext)
 (sSeq (sIf (fB (fBin gNe (fCall W__law_total_k29 (faD (fVar 2) faNil)) (fCall W__law_total_k29 (faD (fOfN (nLc [4] (iLst (fVar 1)) (gNm 4) fYes (fCall W__law_force (faD (fVar 4) faNil)))) faNil))))
 (sRet (fC (.bool false)))
 sNext)
 (sSeq (sOwn 3 (nLst fsNil))
 (sSeq (sFor (iLst (fVar 1)) (gNm 4)
 (sSeq (sAsg (fIte (fB (fBin gEq (fBin gIx (fVarT 4) (fC (.int 0))) (fC (.str "point")))) (fBin gIx (fVarT 4) (fC (.int 1))) (fCall W__law_mul (faD (fTup (fsCons (fC (.int 1)) (fsCons (fC (.int 2)) fsNil))) (faD (fCall W__law_add (faD (fBin gIx (fVarT 4) (fC (.int 1))) (faD (fBin gIx (fVarT 4) (fC (.int 2))) faNil))) faNil)))) (gNm 5))
 (sApp 3 (fCall W__law_mul (faD (fCall W__law_force (faD (fVar 4) faNil)) (faD (fVar 5) faNil))))))
 (sFrz 3 (sRet (fBin gEq (fCall W__law_total_k29 (faD (fOfN (nLc [6] (iRng (fsCons (fBlt bLen (fsCons (fVarT 2) fsNil)) fsNil)) (gNm 6) fYes (fCall W__law_mul (faD (fBin gIx (fVarT 2) (fVarT 6)) (faD (fBin gIx (fVarT 0) (fVarT 6)) faNil))))) faNil)) (fCall W__law_total_k29 (faD (fVar 3) faNil)))))))))
def W__law_balances_k29 : W := runD 7 B__law_balances_k29
def B__law_pick : FS := (sRet (fBin gIx (fVarT 1) (fCall W__law_draw (faPool 0 (faD (fBlt bLen (fsCons (fVarT 1) fsNil)) faNil)))))
def W__law_pick : W := runD 2 B__law_pick
def B__law_same_k29 (w : W) : FS := (sSeq (sIf (fB (fBin gIsN (fVarT 1) (fC .none)))
 (sRet (fBin gIsN (fVarT 0) (fC .none)))
 sNext)
 (sSeq (sIf (fB (fBin gIsB (fVarT 1) (fC (.bool true))))
 (sRet (fBin gIsB (fVarT 0) (fC (.bool true))))
 sNext)
 (sSeq (sIf (fB (fBin gIsB (fVarT 1) (fC (.bool false))))
 (sRet (fBin gIsB (fVarT 0) (fC (.bool false))))
 sNext)
 (sSeq (sIf (fTru (fUn (gIsI isIntD) (fVarT 1)))
 (sRet (fAndV (fUn (gIsI isIntD) (fVarT 0)) (fAndV (fNotV (fUn (gIsI isBoolD) (fVarT 0))) (fBin gEq (fVarT 0) (fVarT 1)))))
 sNext)
 (sSeq (sIf (fTru (fUn (gIsI isStrD) (fVarT 1)))
 (sRet (fAndV (fUn (gIsI isStrD) (fVarT 0)) (fBin gEq (fVarT 0) (fVarT 1))))
 sNext)
 (sSeq (sIf (fTru (fUn (gIsI isDictD) (fVarT 1)))
 (sSeq (sIf (fOr (fNot (fTru (fUn (gIsI isDictD) (fVarT 0)))) (fB (fBin gNe (fBlt bLen (fsCons (fVarT 0) fsNil)) (fBlt bLen (fsCons (fVarT 1) fsNil)))))
 (sRet (fC (.bool false)))
 sNext)
 (sSeq (sFor (iLst (fVar 1)) (gNm 2)
 (sIf (fOr (fB (fBin gNotIn (fVarT 2) (fVarT 0))) (fNot (fTru (fCall w (faD (fBin gIx (fVarT 0) (fVarT 2)) (faD (fBin gIx (fVarT 1) (fVarT 2)) faNil))))))
 (sRet (fC (.bool false)))
 sNext))
 (sRet (fC (.bool true)))))
 sNext)
 (sSeq (sIf (fOr (fB (fBin gNe (fUn (gIsI isTupD) (fVarT 0)) (fUn (gIsI isTupD) (fVarT 1)))) (fB (fBin gNe (fUn (gIsI isListD) (fVarT 0)) (fUn (gIsI isListD) (fVarT 1)))))
 (sRet (fC (.bool false)))
 sNext)
 (sSeq (sIf (fB (fBin gNe (fBlt bLen (fsCons (fVarT 0) fsNil)) (fBlt bLen (fsCons (fVarT 1) fsNil))))
 (sRet (fC (.bool false)))
 sNext)
 (sSeq (sFor (iRng (fsCons (fBlt bLen (fsCons (fVarT 1) fsNil)) fsNil)) (gNm 3)
 (sIf (fNot (fTru (fCall w (faD (fBin gIx (fVarT 0) (fVarT 3)) (faD (fBin gIx (fVarT 1) (fVarT 3)) faNil)))))
 (sRet (fC (.bool false)))
 sNext))
 (sRet (fC (.bool true))))))))))))
def R__law_same_k29 : Nat → W
 | 0 => fun _ _ => False
 | n + 1 => runD 4 (B__law_same_k29 (R__law_same_k29 n))
def W__law_same_k29 : W := R__law_same_k29 10
def B__law_breaks : FS := (sSeq (sOwn 3 (nOf (fBin gAdd (fOfN (nLst (fsCons (fTup (fsCons (fC (.int 0)) (fsCons (fC (.int 1)) fsNil))) (fsCons (fVar 0) fsNil)))) (fVarT 1))))
 (sSeq (sFor (iLst (fVar 2)) (gNm 4)
 (sSeq (sApp 3 (fBin gIx (fVarT 4) (fC (.int 1))))
 (sIf (fB (fBin gEq (fBin gIx (fVarT 4) (fC (.int 0))) (fC (.str "spread"))))
 (sApp 3 (fBin gIx (fVarT 4) (fC (.int 2))))
 sNext)))
 (sSeq (sAsg (fOfN (nLst fsNil)) (gNm 5))
 (sSeq (sFrz 3 (sFor (iLst (fVar 3)) (gNm 6)
 (sSeq (sAsg (fBlt bLen (fsCons (fOfN (nLc [8] (iLst (fVar 5)) (gNm 8) (fTru (fCall W__law_less (faD (fVar 8) (faD (fVar 6) faNil)))) (fVar 8))) fsNil)) (gNm 7))
 (sIf (fB (fBin gNotIn (fVarT 6) (fVarT 5)))
 (sAsg (fBin gAdd (fBin gAdd (fSl (fVarT 5) fNoPart (fPart (fVar 7))) (fOfN (nLst (fsCons (fVar 6) fsNil)))) (fSl (fVarT 5) (fPart (fVar 7)) fNoPart)) (gNm 5))
 sNext))))
 (sRet (fVar 5))))))
def W__law_breaks : W := runD 9 B__law_breaks
end TW

set_option Elab.async false
set_option linter.all false
set_option maxRecDepth 100000
set_option maxHeartbeats 1000000
/-! DLQ: the D-layer's semantics as simp facts; fractions as rational numbers. -/
namespace DL
open PySem
section
variable {env : Env} {Q : D → Prop} {E : DEnds}
@[simp] theorem fC_eq (x : D) : fC x env Q = Q x := id rfl
@[simp] theorem fBin_eq (g : D → D → (D → Prop) → Prop) (fa fb : FE) : fBin g fa fb env Q = fa env fun x => fb env fun y => g x y Q := id rfl
@[simp] theorem fUn_eq (g : D → (D → Prop) → Prop) (fa : FE) : fUn g fa env Q = fa env fun x => g x Q := id rfl
@[simp] theorem fIte_eq (t : FT) (fa fb : FE) : fIte t fa fb env Q = t env fun b => if b = true then fa env Q else fb env Q := id rfl
@[simp] theorem fsNil_eq (R : List D → Prop) : fsNil env R = R [] := id rfl
@[simp] theorem fsCons_eq (f : FE) (r : FDs) (R : List D → Prop) : fsCons f r env R = f env fun x => r env fun xs => R (x :: xs) := id rfl
@[simp] theorem fTup_eq (f : FDs) : fTup f env Q = f env fun xs => Q (.tuple xs) := id rfl
@[simp] theorem nLst_eq (f : FDs) (R : List D → Prop) : nLst f env R = f env R := id rfl
@[simp] theorem fOfN_eq (f : FN) : fOfN f env Q = f env fun xs => Q (.list xs) := id rfl
@[simp] theorem faNil_eq (R : List Slot → Prop) : faNil env R = R [] := id rfl
@[simp] theorem faD_eq (f : FE) (r : FA) (R : List Slot → Prop) : faD f r env R = f env fun x => r env fun xs => R (.d x :: xs) := id rfl
@[simp] theorem fCall_eq (w : W) (fa : FA) : fCall w fa env Q = fa env fun xs => w xs Q := id rfl
@[simp] theorem fBlt_eq (g : List D → (D → Prop) → Prop) (f : FDs) : fBlt g f env Q = f env fun xs => g xs Q := id rfl
@[simp] theorem fB_eq (f : FE) (R : Bool → Prop) : fB f env R = f env fun x => match x with | .bool b => R b | _ => False := id rfl
@[simp] theorem fTru_eq (f : FE) (R : Bool → Prop) : fTru f env R = f env fun x => need (truD x) R := id rfl
@[simp] theorem fAnd_eq (t u : FT) (R : Bool → Prop) : fAnd t u env R = t env fun b => if b = true then u env R else R false := id rfl
@[simp] theorem fOr_eq (t u : FT) (R : Bool → Prop) : fOr t u env R = t env fun b => if b = true then R true else u env R := id rfl
@[simp] theorem fNot_eq (t : FT) (R : Bool → Prop) : fNot t env R = t env fun b => R (!b) := id rfl
@[simp] theorem fYes_eq (R : Bool → Prop) : fYes env R = R true := id rfl
@[simp] theorem gNm_eq (i : Nat) (x : D) (R : Env → Prop) : gNm i x env R = R (env.set i (.d x)) := id rfl
@[simp] theorem gsNil_eq (xs : List D) (R : Env → Prop) : gsNil xs env R = (xs = [] ∧ R env) := id rfl
@[simp] theorem gsCons_eq (g : FG) (r : FGs) (x : D) (xs : List D) (R : Env → Prop) : gsCons g r (x :: xs) env R = g x env fun env' => r xs env' R := id rfl
@[simp] theorem gTp_tup (g : FGs) (xs : List D) (R : Env → Prop) : gTp g (.tuple xs) env R = g xs env R := id rfl
@[simp] theorem gTp_lst (g : FGs) (xs : List D) (R : Env → Prop) : gTp g (.list xs) env R = g xs env R := id rfl
@[simp] theorem sNext_eq : sNext E env = E.nx env := id rfl
@[simp] theorem sSeq_eq (f g : FS) : sSeq f g E env = f { E with nx := g E } env := id rfl
@[simp] theorem sRet_eq (f : FE) : sRet f E env = f env E.rt := id rfl
@[simp] theorem sRetN_eq : sRetN E env = E.rt .none := id rfl
@[simp] theorem sBrk_eq : sBrk E env = E.bk env := id rfl
@[simp] theorem sCnt_eq : sCnt E env = E.ct env := id rfl
@[simp] theorem sIf_eq (t : FT) (f g : FS) : sIf t f g E env = t env fun b => if b = true then f E env else g E env := id rfl
@[simp] theorem sAsg_eq (f : FE) (g : FG) : sAsg f g E env = f env fun x => g x env E.nx := id rfl
@[simp] theorem sDrop_eq (f : FE) : sDrop f E env = f env fun _ => E.nx env := id rfl
@[simp] theorem sOwn_eq (i : Nat) (f : FN) : sOwn i f E env = f env fun xs => E.nx (env.set i (.own xs)) := id rfl
@[simp] theorem sPar_eq (i j : Nat) (fa fb : FE) : sPar i j fa fb E env = fa env fun x => fb env fun y => E.nx ((env.set i (.d x)).set j (.d y)) := id rfl
@[simp] theorem sFor_eq (fi : FI) (g : FG) (fb : FS) : sFor fi g fb E env = fi env fun xs => loopL g fb E xs env := id rfl
@[simp] theorem loopL_nil (g : FG) (fb : FS) : loopL g fb E [] env = E.nx env := id rfl
@[simp] theorem runD_eq (n : Nat) (f : FS) (args : List Slot) : runD n f args Q = f { nx := fun _ => Q .none, rt := Q, bk := fun _ => False, ct := fun _ => False } (args ++ List.replicate (n - args.length) .un) := id rfl
theorem fVar_of {i : Nat} {x : D} (h : env[i]? = some (.d x)) : fVar i env Q = Q x := by unfold fVar; rw [h]
@[simp] theorem fVar_0 (x : D) (e : Env) : fVar 0 (.d x :: e) Q = Q x := id rfl
@[simp] theorem fVar_S (n : Nat) (s : Slot) (e : Env) : fVar (n + 1) (s :: e) Q = fVar n e Q := by unfold fVar; rw [List.getElem?_cons_succ]
@[simp] theorem fVarT_0 (x : D) (e : Env) : fVarT 0 (.d x :: e) Q = Q x := id rfl
@[simp] theorem fVarT_0o (x : List D) (e : Env) : fVarT 0 (.own x :: e) Q = Q (.list x) := id rfl
@[simp] theorem fVarT_0b (x : List D) (e : Env) : fVarT 0 (.bor x :: e) Q = Q (.list x) := id rfl
@[simp] theorem fVarT_S (n : Nat) (s : Slot) (e : Env) : fVarT (n + 1) (s :: e) Q = fVarT n e Q := by unfold fVarT; rw [List.getElem?_cons_succ]
@[simp] theorem faPool_0 (r : FA) (e : Env) (R : List Slot → Prop) : faPool 0 r (.pool :: e) R = r (.pool :: e) fun xs => R (.pool :: xs) := id rfl
@[simp] theorem gAdd_i (i j : Int) : gAdd (.int i) (.int j) Q = Q (.int (i + j)) := id rfl
@[simp] theorem gAdd_l (xs ys : List D) : gAdd (.list xs) (.list ys) Q = (xs.length + ys.length ≤ sizeLine ∧ Q (.list (xs ++ ys))) := id rfl
@[simp] theorem gSub_i (i j : Int) : gSub (.int i) (.int j) Q = Q (.int (i - j)) := id rfl
@[simp] theorem gMul_i (i j : Int) : gMul (.int i) (.int j) Q = ((i.natAbs.log2 + j.natAbs.log2 < 1000000 ∨ i.natAbs < 2 ^ 64 ∨ j.natAbs < 2 ^ 64) ∧ Q (.int (i * j))) := id rfl
@[simp] theorem gMod_i (i j : Int) : gMod (.int i) (.int j) Q = (0 < j ∧ Q (.int (i % j))) := id rfl
@[simp] theorem gDiv_i (i j : Int) : gDiv (.int i) (.int j) Q = (0 < j ∧ j.natAbs.log2 < 9000 ∧ Q (.int (i / j))) := id rfl
@[simp] theorem gNeg_i (i : Int) : gNeg (.int i) Q = Q (.int (-i)) := id rfl
@[simp] theorem gLtI_i (i j : Int) : gLtI (.int i) (.int j) Q = Q (.bool (decide (i < j))) := id rfl
@[simp] theorem gLe_i (i j : Int) : gLe (.int i) (.int j) Q = Q (.bool (decide (i ≤ j))) := id rfl
@[simp] theorem gGt_i (i j : Int) : gGt (.int i) (.int j) Q = Q (.bool (decide (j < i))) := id rfl
@[simp] theorem gGe_i (i j : Int) : gGe (.int i) (.int j) Q = Q (.bool (decide (j ≤ i))) := id rfl
@[simp] theorem gIsN_n (x : D) : gIsN x .none Q = Q (.bool (isNone x)) := by cases x <;> rfl
@[simp] theorem gNotN_n (x : D) : gNotN x .none Q = Q (.bool (!isNone x)) := by cases x <;> rfl
@[simp] theorem gIsB_b (x : D) (b : Bool) : gIsB x (.bool b) Q = Q (.bool (isBool x b)) := by cases x <;> rfl
@[simp] theorem gIsI_eq (p : D → Bool) (x : D) : gIsI p x Q = Q (.bool (p x)) := id rfl
@[simp] theorem iRng_eq (f : FDs) (R : List D → Prop) : iRng f env R = f env fun xs => match xs with
  | [.int j] => -(2 ^ 62) ≤ j ∧ j < 2 ^ 62 ∧ R (rngD 0 j)
  | [.int i, .int j] => -(2 ^ 62) ≤ i ∧ i < 2 ^ 62 ∧ -(2 ^ 62) ≤ j ∧ j < 2 ^ 62 ∧ R (rngD i j)
  | _ => False := id rfl
@[simp] theorem bInt_i (i : Int) : bInt [.int i] Q = Q (.int i) := id rfl
@[simp] theorem bAbs_i (i : Int) : bAbs [.int i] Q = Q (.int (if i < 0 then -i else i)) := id rfl
@[simp] theorem bLen_l (xs : List D) : bLen [.list xs] Q = Q (.int (xs.length : Nat)) := id rfl
@[simp] theorem bLen_t (xs : List D) : bLen [.tuple xs] Q = Q (.int (xs.length : Nat)) := id rfl
@[simp] theorem bGcd_i (i j : Int) : bGcd [.int i, .int j] Q = Q (.int ((Nat.gcd i.natAbs j.natAbs : Nat) : Int)) := id rfl
@[simp] theorem bList_l (xs : List D) : bList [.list xs] Q = Q (.list xs) := id rfl
@[simp] theorem bList_t (xs : List D) : bList [.tuple xs] Q = Q (.list xs) := id rfl
@[simp] theorem ok_int (i : Int) : okD (.int i) = true := id rfl
@[simp] theorem ok_bool (i : Bool) : okD (.bool i) = true := id rfl
@[simp] theorem eqD_int (i j : Int) : eqD (.int i) (.int j) = decide (i = j) := by show (i == j) = _; rw [Bool.eq_iff_iff]; simp
@[simp] theorem gEq_eq (x y : D) : gEq x y Q = (okD x = true ∧ okD y = true ∧ Q (.bool (eqD x y))) := id rfl
@[simp] theorem gNe_eq (x y : D) : gNe x y Q = (okD x = true ∧ okD y = true ∧ Q (.bool (!eqD x y))) := id rfl
theorem gIxL_n {xs : List D} {k : Nat} {x : D} (h : xs[k]? = some x) : gIx (.list xs) (.int k) Q = Q x := by
  show need (L2.atI xs (k : Int)) Q = _
  rw [show L2.atI xs (k : Int) = some x from L2.atI_nat h]; rfl
theorem gIxT_n {xs : List D} {k : Nat} {x : D} (h : xs[k]? = some x) : gIx (.tuple xs) (.int k) Q = Q x := by
  show need (L2.atI xs (k : Int)) Q = _
  rw [show L2.atI xs (k : Int) = some x from L2.atI_nat h]; rfl
@[simp] theorem gIxT_0 (x : D) (xs : List D) : gIx (.tuple (x :: xs)) (.int 0) Q = Q x := gIxT_n (k := 0) rfl
@[simp] theorem gIxT_1 (x y : D) (xs : List D) : gIx (.tuple (x :: y :: xs)) (.int 1) Q = Q y := gIxT_n (k := 1) rfl
@[simp] theorem gIxT_2 (x y z : D) (xs : List D) : gIx (.tuple (x :: y :: z :: xs)) (.int 2) Q = Q z := gIxT_n (k := 2) rfl
@[simp] theorem gIxT_3 (x y z u : D) (xs : List D) : gIx (.tuple (x :: y :: z :: u :: xs)) (.int 3) Q = Q u := gIxT_n (k := 3) rfl
@[simp] theorem gIxL_0 (x : D) (xs : List D) : gIx (.list (x :: xs)) (.int 0) Q = Q x := gIxL_n (k := 0) rfl
@[simp] theorem gIxL_1 (x y : D) (xs : List D) : gIx (.list (x :: y :: xs)) (.int 1) Q = Q y := gIxL_n (k := 1) rfl
@[simp] theorem gIxL_2 (x y z : D) (xs : List D) : gIx (.list (x :: y :: z :: xs)) (.int 2) Q = Q z := gIxL_n (k := 2) rfl
end
/-- data that may be compared, at most n deep -/
def okN (n : Nat) (d : D) : Prop := d.canLay0 = true ∧ d.depth ≤ n
theorem okD_of {n : Nat} {d : D} (h : okN n d) (hn : n ≤ 64 := by decide) : okD d = true := by
  unfold okD SeqAt.shaped
  rw [h.1, Bool.true_and]
  exact decide_eq_true (Nat.le_trans h.2 hn)
theorem okN.mono {n m : Nat} {d : D} (h : okN n d) (k : n ≤ m) : okN m d := ⟨h.1, Nat.le_trans h.2 k⟩
theorem okN_int {n : Nat} (i : Int) : okN n (.int i) := ⟨rfl, by simp [PyData.depth]⟩
theorem okN_bool {n : Nat} (i : Bool) : okN n (.bool i) := ⟨rfl, by simp [PyData.depth]⟩
theorem okN_none {n : Nat} : okN n .none := ⟨rfl, by simp [PyData.depth]⟩
theorem okN_all {n : Nat} : ∀ {xs : List D}, (∀ x ∈ xs, okN n x) → PyData.canLayAll0 xs = true ∧ PyData.depthAll xs ≤ n
  | [], _ => ⟨rfl, by simp [PyData.depthAll]⟩
  | x :: xs, h => by
    have h1 := h x (by simp)
    have h2 := okN_all (n := n) (xs := xs) fun y hy => h y (by simp [hy])
    exact ⟨by simp [PyData.canLayAll0, h1.1, h2.1], by have := h1.2; have := h2.2; simp [PyData.depthAll]; omega⟩
theorem okN_list {n : Nat} {xs : List D} (h : ∀ x ∈ xs, okN n x) : okN (n + 1) (.list xs) := by
  have := okN_all h
  exact ⟨by simpa [PyData.canLay0] using this.1, by have := this.2; simp [PyData.depth]; omega⟩
theorem okN_tuple {n : Nat} {xs : List D} (h : ∀ x ∈ xs, okN n x) : okN (n + 1) (.tuple xs) := by
  have := okN_all h
  exact ⟨by simpa [PyData.canLay0] using this.1, by have := this.2; simp [PyData.depth]; omega⟩
theorem okN_str {n : Nat} {x : Str} (h : PyData.canLay0 (.str x) = true) : okN n (.str x) := ⟨h, by simp [PyData.depth]⟩
end DL

set_option Elab.async false
set_option linter.all false
set_option maxRecDepth 100000
set_option maxHeartbeats 1000000
set_option exponentiation.threshold 10000
/-! DLR: fractions as rational numbers: the defs over fractions. -/
namespace TW
open PySem DL
/-- a fraction as the program writes it -/
def fr (q : Rat) : D := .tuple [.int q.num, .int q.den]
def sz (q : Rat) : Nat := max q.num.natAbs.log2 q.den.log2 + 1
theorem lt_pow_log2 (n : Nat) : n < 2 ^ (n.log2 + 1) := by
  by_cases h : n = 0
  · subst h; decide
  · exact (Nat.log2_lt h).mp (Nat.lt_succ_self _)
theorem num_lt (q : Rat) : q.num.natAbs < 2 ^ sz q := Nat.lt_of_lt_of_le (lt_pow_log2 _) (Nat.pow_le_pow_right (by decide) (by unfold sz; omega))
theorem den_lt (q : Rat) : q.den < 2 ^ sz q := Nat.lt_of_lt_of_le (lt_pow_log2 _) (Nat.pow_le_pow_right (by decide) (by unfold sz; omega))
theorem log2_le_of_lt {n k : Nat} (h : n < 2 ^ k) (hk : 1 ≤ k) : n.log2 + 1 ≤ k := by
  by_cases e : n = 0
  · subst e; simpa using hk
  · have := (Nat.log2_lt e).mpr h; omega
theorem sz_le {q : Rat} {k : Nat} (h1 : q.num.natAbs < 2 ^ k) (h2 : q.den < 2 ^ k) : sz q ≤ k := by
  have hk : 1 ≤ k := by
    rcases Nat.eq_zero_or_pos k with e | e
    · subst e; have := q.den_pos; omega
    · exact e
  have a := log2_le_of_lt h1 hk
  have b := log2_le_of_lt h2 hk
  unfold sz; omega
theorem sz_pos (q : Rat) : 1 ≤ sz q := by unfold sz; omega
theorem sz_divInt {p q : Int} {k : Nat} (h0 : q ≠ 0) (hp : p.natAbs < 2 ^ k) (hq : q.natAbs < 2 ^ k) : sz (Rat.divInt p q) ≤ k := by
  apply sz_le
  · rw [Rat.num_divInt]
    refine Nat.lt_of_le_of_lt ?_ hp
    have h1 : (q.sign * p / ((q.gcd p : Nat) : Int)).natAbs ≤ (q.sign * p).natAbs := by
      rw [Int.natAbs_ediv_of_dvd]
      · exact Nat.div_le_self _ _
      · exact Int.dvd_mul_of_dvd_right (Int.gcd_dvd_right ..)
    refine Nat.le_trans h1 ?_
    rw [Int.natAbs_mul]
    have : q.sign.natAbs ≤ 1 := by rcases Int.lt_trichotomy q 0 with h | h | h <;> simp [Int.sign_eq_neg_one_of_neg, Int.sign_eq_one_of_pos, h]
    calc q.sign.natAbs * p.natAbs ≤ 1 * p.natAbs := Nat.mul_le_mul_right _ this
      _ = p.natAbs := Nat.one_mul _
  · rw [Rat.den_divInt, if_neg h0]
    exact Nat.lt_of_le_of_lt (Nat.div_le_self _ _) hq
theorem mul_lt_pow {a b n m : Nat} (ha : a < 2 ^ n) (hb : b < 2 ^ m) : a * b < 2 ^ (n + m) := by
  rw [Nat.pow_add]
  exact Nat.mul_lt_mul'' ha hb
theorem log2_lt_of {a n : Nat} (h : a < 2 ^ n) (hn : 0 < n) : a.log2 < n := by
  have := log2_le_of_lt h hn; omega
theorem fr_divInt {p q : Int} (hq : 0 < q) : (PyData.tuple [.int (p / ((Nat.gcd p.natAbs q.natAbs : Nat) : Int)), .int (q / ((Nat.gcd p.natAbs q.natAbs : Nat) : Int))]) = fr (Rat.divInt p q) := by
  have e : Int.gcd q p = Nat.gcd p.natAbs q.natAbs := by unfold Int.gcd; exact Nat.gcd_comm _ _
  show _ = _
  unfold fr
  rw [Rat.num_divInt, Rat.den_divInt, if_neg (by omega), Int.sign_eq_one_of_pos hq, Int.one_mul, e]
  congr 4
  have : ((q.natAbs / (Nat.gcd p.natAbs q.natAbs) : Nat) : Int) = (q.natAbs : Int) / ((Nat.gcd p.natAbs q.natAbs : Nat) : Int) := by simp
  rw [this, Int.natAbs_of_nonneg (by omega)]
theorem w_frac {p q : Int} {k : Nat} {Q : D → Prop} (h0 : q ≠ 0) (hp : p.natAbs < 2 ^ k) (hq : q.natAbs < 2 ^ k) (hk : k ≤ 9000) (h : Q (fr (Rat.divInt p q))) : W_frac [.d (.int p), .d (.int q)] Q := by
  have hg : ∀ a b : Int, b ≠ 0 → b.natAbs < 2 ^ k → 0 < ((Nat.gcd a.natAbs b.natAbs : Nat) : Int) ∧ (((Nat.gcd a.natAbs b.natAbs : Nat) : Int)).natAbs.log2 < 9000 := fun a b hb hl => by
    have h1 : 0 < Nat.gcd a.natAbs b.natAbs := Nat.gcd_pos_of_pos_right _ (by omega)
    have h2 : Nat.gcd a.natAbs b.natAbs ≤ b.natAbs := Nat.gcd_le_right _ (by omega)
    refine ⟨by omega, ?_⟩
    rw [Int.natAbs_natCast]
    exact log2_lt_of (Nat.lt_of_lt_of_le (Nat.lt_of_le_of_lt h2 hl) (Nat.pow_le_pow_right (by decide) hk)) (by decide)
  simp [W_frac, B_frac]
  split
  · rename_i hn
    have e : Rat.divInt p q = Rat.divInt (-p) (-q) := (Rat.neg_divInt_neg p q).symm
    obtain ⟨h1, h2⟩ := hg (-p) (-q) (by omega) (by simpa using hq)
    have h3 := fr_divInt (p := -p) (q := -q) (by omega)
    simp only [Int.natAbs_neg, Int.natAbs_natCast] at h1 h2 h3
    exact ⟨by omega, h2, by omega, h2, by rw [show _ = _ from h3, ← e]; exact h⟩
  · rename_i hn
    obtain ⟨h1, h2⟩ := hg p q h0 hq
    have h3 := fr_divInt (p := p) (q := q) (by omega)
    simp only [Int.natAbs_natCast] at h1 h2 h3
    exact ⟨by omega, h2, by omega, h2, by rw [show _ = _ from h3]; exact h⟩
theorem log2_num_le (q : Rat) : q.num.natAbs.log2 < sz q := by unfold sz; omega
theorem log2_den_le (q : Rat) : q.den.log2 < sz q := by unfold sz; omega
theorem den_mul_ne (a b : Rat) : ((a.den : Int) * (b.den : Int)) ≠ 0 := by
  have h1 := a.den_pos
  have h2 := b.den_pos
  exact Int.mul_ne_zero (by omega) (by omega)
theorem natAbs_mul_lt {x y : Int} {n m : Nat} (h1 : x.natAbs < 2 ^ n) (h2 : y.natAbs < 2 ^ m) : (x * y).natAbs < 2 ^ (n + m) := by
  rw [Int.natAbs_mul]; exact mul_lt_pow h1 h2
theorem den_abs (q : Rat) : ((q.den : Int)).natAbs < 2 ^ sz q := by rw [Int.natAbs_natCast]; exact den_lt q
theorem natAbs_add_lt {x y : Int} {n : Nat} (h1 : x.natAbs < 2 ^ n) (h2 : y.natAbs < 2 ^ n) : (x + y).natAbs < 2 ^ (n + 1) := by
  have := Int.natAbs_add_le x y; rw [Nat.pow_succ]; omega
theorem natAbs_sub_lt {x y : Int} {n : Nat} (h1 : x.natAbs < 2 ^ n) (h2 : y.natAbs < 2 ^ n) : (x - y).natAbs < 2 ^ (n + 1) := by
  rw [Nat.pow_succ]; omega
theorem add_num_lt (a b : Rat) : (a.num * b.den + b.num * a.den).natAbs < 2 ^ (sz a + sz b + 1) := natAbs_add_lt (natAbs_mul_lt (num_lt a) (den_abs b)) (by rw [Nat.add_comm]; exact natAbs_mul_lt (num_lt b) (den_abs a))
theorem sub_num_lt (a b : Rat) : (a.num * b.den - b.num * a.den).natAbs < 2 ^ (sz a + sz b + 1) := natAbs_sub_lt (natAbs_mul_lt (num_lt a) (den_abs b)) (by rw [Nat.add_comm]; exact natAbs_mul_lt (num_lt b) (den_abs a))
theorem den_den_lt (a b : Rat) : ((a.den : Int) * (b.den : Int)).natAbs < 2 ^ (sz a + sz b) := natAbs_mul_lt (den_abs a) (den_abs b)
theorem pow_up {x n m : Nat} (h : x < 2 ^ n) (k : n ≤ m) : x < 2 ^ m := Nat.lt_of_lt_of_le h (Nat.pow_le_pow_right (by decide) k)
theorem add_divInt (a b : Rat) : Rat.divInt (a.num * b.den + b.num * a.den) ((a.den : Int) * (b.den : Int)) = a + b := by
  rw [Rat.add_def', ← Rat.divInt_ofNat]; rfl
theorem sub_divInt (a b : Rat) : Rat.divInt (a.num * b.den - b.num * a.den) ((a.den : Int) * (b.den : Int)) = a - b := by
  rw [Rat.sub_def', ← Rat.divInt_ofNat]; rfl
theorem mul_divInt (a b : Rat) : Rat.divInt (a.num * b.num) ((a.den : Int) * (b.den : Int)) = a * b := by
  rw [Rat.mul_def', ← Rat.divInt_ofNat]; rfl
theorem div_divInt (a b : Rat) : Rat.divInt (a.num * b.den) ((a.den : Int) * b.num) = a / b := by
  rw [Rat.div_def, Rat.inv_def]
  conv => rhs; rw [← Rat.num_divInt_den a]
  rw [Rat.divInt_mul_divInt]
theorem sz_add (a b : Rat) : sz (a + b) ≤ sz a + sz b + 1 := by
  rw [← add_divInt]; exact sz_divInt (den_mul_ne a b) (add_num_lt a b) (pow_up (den_den_lt a b) (by omega))
theorem sz_sub (a b : Rat) : sz (a - b) ≤ sz a + sz b + 1 := by
  rw [← sub_divInt]; exact sz_divInt (den_mul_ne a b) (sub_num_lt a b) (pow_up (den_den_lt a b) (by omega))
theorem sz_mul (a b : Rat) : sz (a * b) ≤ sz a + sz b := by
  rw [← mul_divInt]; exact sz_divInt (den_mul_ne a b) (natAbs_mul_lt (num_lt a) (num_lt b)) (den_den_lt a b)
theorem sz_div (a b : Rat) (h : b ≠ 0) : sz (a / b) ≤ sz a + sz b := by
  have hb : b.num ≠ 0 := fun e => h (Rat.num_eq_zero.mp e)
  have := a.den_pos
  rw [← div_divInt]; exact sz_divInt (Int.mul_ne_zero (by omega) hb) (natAbs_mul_lt (num_lt a) (den_abs b)) (natAbs_mul_lt (den_abs a) (num_lt b))
theorem sz_neg (a : Rat) : sz (-a) = sz a := by unfold sz; rw [Rat.neg_num, Rat.neg_den, Int.natAbs_neg]
theorem sz_0 : sz 0 = 1 := rfl
theorem sz_1 : sz 1 = 1 := rfl
section
variable {a b : Rat} {Q : D → Prop}
theorem w_plus (hs : sz a + sz b < 9000) (h : Q (fr (a + b))) : W_plus [.d (fr a), .d (fr b)] Q := by
  have := log2_num_le a; have := log2_num_le b; have := log2_den_le a; have := log2_den_le b
  simp [W_plus, B_plus, fr]
  refine ⟨.inl (by omega), .inl (by omega), .inl (by omega), ?_⟩
  refine w_frac (k := sz a + sz b + 1) (den_mul_ne a b) (add_num_lt a b) (pow_up (den_den_lt a b) (by omega)) (by omega) ?_
  rw [add_divInt]; exact h
theorem w_minus (hs : sz a + sz b < 9000) (h : Q (fr (a - b))) : W_minus [.d (fr a), .d (fr b)] Q := by
  have := log2_num_le a; have := log2_num_le b; have := log2_den_le a; have := log2_den_le b
  simp [W_minus, B_minus, fr]
  refine ⟨.inl (by omega), .inl (by omega), .inl (by omega), ?_⟩
  refine w_frac (k := sz a + sz b + 1) (den_mul_ne a b) (sub_num_lt a b) (pow_up (den_den_lt a b) (by omega)) (by omega) ?_
  rw [sub_divInt]; exact h
theorem w_times (hs : sz a + sz b < 9000) (h : Q (fr (a * b))) : W_times [.d (fr a), .d (fr b)] Q := by
  have := log2_num_le a; have := log2_num_le b; have := log2_den_le a; have := log2_den_le b
  simp [W_times, B_times, fr]
  refine ⟨.inl (by omega), .inl (by omega), ?_⟩
  refine w_frac (k := sz a + sz b) (den_mul_ne a b) (natAbs_mul_lt (num_lt a) (num_lt b)) (den_den_lt a b) (by omega) ?_
  rw [mul_divInt]; exact h
theorem w_over (hb : b ≠ 0) (hs : sz a + sz b < 9000) (h : Q (fr (a / b))) : W_over [.d (fr a), .d (fr b)] Q := by
  have := log2_num_le a; have := log2_num_le b; have := log2_den_le a; have := log2_den_le b
  have hn : b.num ≠ 0 := fun e => hb (Rat.num_eq_zero.mp e)
  have := a.den_pos
  simp [W_over, B_over, fr]
  refine ⟨.inl (by omega), .inl (by omega), ?_⟩
  refine w_frac (k := sz a + sz b) (Int.mul_ne_zero (by omega) hn) (natAbs_mul_lt (num_lt a) (den_abs b)) (natAbs_mul_lt (den_abs a) (num_lt b)) (by omega) ?_
  rw [div_divInt]; exact h
theorem w_less (hs : sz a + sz b < 9000) (h : Q (.bool (decide (a < b)))) : W_less [.d (fr a), .d (fr b)] Q := by
  have := log2_num_le a; have := log2_num_le b; have := log2_den_le a; have := log2_den_le b
  simp [W_less, B_less, fr]
  refine ⟨.inl (by omega), .inl (by omega), ?_⟩
  have e : decide (a.num * b.den < b.num * a.den) = decide (a < b) := by rw [decide_eq_decide]; exact (Rat.lt_iff a b).symm
  rw [e]; exact h
end
/-! the same of the law -/
def gcdB : FS := (sSeq (sIf (fB (fBin gEq (fVarT 1) (fC (.int 0))))
 sBrk
 sNext)
 (sPar 0 1 (fVar 1) (fBin gMod (fBlt bInt (fsCons (fVarT 0) fsNil)) (fVarT 1))))
theorem gcd_loop (E : DEnds) (g : Nat) (hn : ∀ s, E.nx [.d (.int (g : Int)), .d (.int 0), s]) : ∀ (n : Nat) (xs : List D) (a b : Nat) (s : Slot), b < 2 ^ n → 2 * n ≤ xs.length → Nat.gcd a b = g → loopL (gNm 2) gcdB E xs [.d (.int a), .d (.int b), s] := by
  have z : ∀ (xs : List D) (a : Nat) (s : Slot), Nat.gcd a 0 = g → loopL (gNm 2) gcdB E xs [.d (.int a), .d (.int 0), s] := by
    intro xs a s e
    rw [Nat.gcd_zero_right] at e
    subst e
    cases xs with
    | nil => exact hn s
    | cons x xs => simp [loopL, gcdB]; exact hn _
  have st : ∀ (x : D) (xs : List D) (a b : Nat) (s : Slot), b ≠ 0 → loopL (gNm 2) gcdB E xs [.d (.int b), .d (.int ((a % b : Nat) : Int)), .d x] → loopL (gNm 2) gcdB E (x :: xs) [.d (.int a), .d (.int b), s] := by
    intro x xs a b s hb h
    simp [loopL, gcdB]
    rw [if_neg (by omega)]
    exact ⟨by omega, h⟩
  intro n
  induction n with
  | zero =>
    intro xs a b s hb _ e
    have : b = 0 := by simpa using hb
    subst this
    exact z xs a s e
  | succ n ih =>
    intro xs a b s hb hl e
    by_cases h0 : b = 0
    · subst h0; exact z xs a s e
    match xs, hl with
    | [], hl => simp at hl
    | [_], hl => simp at hl; omega
    | x :: y :: xs, hl =>
      refine st x _ a b s h0 ?_
      have e1 : Nat.gcd b (a % b) = g := by rw [← e, Nat.gcd_comm a b, Nat.gcd_rec b a, Nat.gcd_comm]
      by_cases h1 : a % b = 0
      · rw [h1]; rw [h1] at e1; exact z _ _ _ e1
      · refine st y _ b (a % b) _ h1 (ih xs (a % b) (b % (a % b)) _ ?_ (by simp at hl; omega) ?_)
        · have g1 : a % b < b := Nat.mod_lt _ (by omega)
          have g2 : b % (a % b) < a % b := Nat.mod_lt _ (by omega)
          have g3 : b % (a % b) ≤ b - a % b := by rw [Nat.mod_eq_sub_mod (by omega)]; exact Nat.mod_le _ _
          rw [Nat.pow_succ] at hb
          omega
        · rw [← e1, Nat.gcd_comm b (a % b), Nat.gcd_rec (a % b) b, Nat.gcd_comm]
theorem rngD_len (i j : Int) : (rngD i j).length = (j - i).toNat := by unfold rngD; simp
theorem w_lgcd {a b n : Nat} {Q : D → Prop} (hb : b < 2 ^ n) (hn : n ≤ 9000) (h : Q (.int ((Nat.gcd a b : Nat) : Int))) : W__law_gcd [.d (.int a), .d (.int b)] Q := by
  have hl : 2 * n ≤ (rngD 0 400000).length := by rw [rngD_len]; omega
  unfold W__law_gcd
  rw [runD_eq]
  unfold B__law_gcd
  rw [sSeq_eq, sFor_eq, iRng_eq]
  refine ⟨by decide, by decide, ?_⟩
  generalize rngD 0 400000 = xs at *
  exact gcd_loop _ (Nat.gcd a b) (fun s => h) n xs a b .un hb hl rfl
theorem w_lratio {p q : Int} {k : Nat} {Q : D → Prop} (h0 : q ≠ 0) (hp : p.natAbs < 2 ^ k) (hq : q.natAbs < 2 ^ k) (hk : k ≤ 9000) (h : Q (fr (Rat.divInt p q))) : W__law_ratio [.d (.int p), .d (.int q)] Q := by
  have hg : ∀ a b : Int, b ≠ 0 → b.natAbs < 2 ^ k → 0 < ((Nat.gcd a.natAbs b.natAbs : Nat) : Int) ∧ (((Nat.gcd a.natAbs b.natAbs : Nat) : Int)).natAbs.log2 < 9000 := fun a b hb hl => by
    have h1 : 0 < Nat.gcd a.natAbs b.natAbs := Nat.gcd_pos_of_pos_right _ (by omega)
    have h2 : Nat.gcd a.natAbs b.natAbs ≤ b.natAbs := Nat.gcd_le_right _ (by omega)
    refine ⟨by omega, ?_⟩
    rw [Int.natAbs_natCast]
    exact log2_lt_of (Nat.lt_of_lt_of_le (Nat.lt_of_le_of_lt h2 hl) (Nat.pow_le_pow_right (by decide) hk)) (by decide)
  have ab : ∀ i : Int, (if i < 0 then -i else i) = (i.natAbs : Int) := fun i => by split <;> omega
  simp [W__law_ratio, B__law_ratio]
  split
  · rename_i hn
    have e : Rat.divInt p q = Rat.divInt (-p) (-q) := (Rat.neg_divInt_neg p q).symm
    obtain ⟨h1, h2⟩ := hg (-p) (-q) (by omega) (by simpa using hq)
    have h3 := fr_divInt (p := -p) (q := -q) (by omega)
    simp only [Int.natAbs_neg, Int.natAbs_natCast] at h1 h2 h3
    rw [show (if 0 < p then p else -p) = ((-p).natAbs : Int) by split <;> omega, show -q = ((-q).natAbs : Int) by omega]
    refine w_lgcd (n := k) (by simpa using hq) hk ?_
    simp only [Int.natAbs_neg, Int.natAbs_natCast, gDiv_i]
    refine ⟨by omega, h2, by omega, h2, ?_⟩
    rw [show (q.natAbs : Int) = -q by omega, show _ = _ from h3, ← e]; exact h
  · rename_i hn
    obtain ⟨h1, h2⟩ := hg p q h0 hq
    have h3 := fr_divInt (p := p) (q := q) (by omega)
    simp only [Int.natAbs_natCast] at h1 h2 h3
    rw [ab, show q = (q.natAbs : Int) by omega]
    refine w_lgcd (n := k) (by simpa using hq) hk ?_
    simp only [Int.natAbs_natCast, gDiv_i]
    refine ⟨by omega, h2, by omega, h2, ?_⟩
    rw [show (q.natAbs : Int) = q by omega, show _ = _ from h3]; exact h
section
variable {a b : Rat} {Q : D → Prop}
theorem w_ladd (hs : sz a + sz b < 9000) (h : Q (fr (a + b))) : W__law_add [.d (fr a), .d (fr b)] Q := by
  have := log2_num_le a; have := log2_num_le b; have := log2_den_le a; have := log2_den_le b
  simp [W__law_add, B__law_add, fr]
  refine ⟨.inl (by omega), .inl (by omega), .inl (by omega), ?_⟩
  refine w_lratio (k := sz a + sz b + 1) (den_mul_ne a b) (add_num_lt a b) (pow_up (den_den_lt a b) (by omega)) (by omega) ?_
  rw [add_divInt]; exact h
theorem w_lsub (hs : sz a + sz b < 9000) (h : Q (fr (a - b))) : W__law_sub [.d (fr a), .d (fr b)] Q := by
  have := log2_num_le a; have := log2_num_le b; have := log2_den_le a; have := log2_den_le b
  simp [W__law_sub, B__law_sub, fr]
  refine ⟨.inl (by omega), .inl (by omega), .inl (by omega), ?_⟩
  refine w_lratio (k := sz a + sz b + 1) (den_mul_ne a b) (sub_num_lt a b) (pow_up (den_den_lt a b) (by omega)) (by omega) ?_
  rw [sub_divInt]; exact h
theorem w_lmul (hs : sz a + sz b < 9000) (h : Q (fr (a * b))) : W__law_mul [.d (fr a), .d (fr b)] Q := by
  have := log2_num_le a; have := log2_num_le b; have := log2_den_le a; have := log2_den_le b
  simp [W__law_mul, B__law_mul, fr]
  refine ⟨.inl (by omega), .inl (by omega), ?_⟩
  refine w_lratio (k := sz a + sz b) (den_mul_ne a b) (natAbs_mul_lt (num_lt a) (num_lt b)) (den_den_lt a b) (by omega) ?_
  rw [mul_divInt]; exact h
theorem w_lless (hs : sz a + sz b < 9000) (h : Q (.bool (decide (a < b)))) : W__law_less [.d (fr a), .d (fr b)] Q := by
  have := log2_num_le a; have := log2_num_le b; have := log2_den_le a; have := log2_den_le b
  simp [W__law_less, B__law_less, fr]
  refine ⟨.inl (by omega), .inl (by omega), ?_⟩
  have e : decide (a.num * b.den < b.num * a.den) = decide (a < b) := by rw [decide_eq_decide]; exact (Rat.lt_iff a b).symm
  rw [e]; exact h
end
end TW

set_option Elab.async false
set_option linter.all false
set_option maxRecDepth 100000
set_option maxHeartbeats 1000000
set_option exponentiation.threshold 10000
/-! DLS: loops and comprehensions over the semantics; sums; draws. -/
namespace TW
open PySem DL
section
variable {α : Type} {g : FG} {ft : FT} {fe : FE} {fb : FS} {env : DL.Env} {enc : α → D}
theorem compL_gen {p : α → Bool} {φ : α → D} {Q : List D → Prop} : ∀ (as : List α) (acc : List D), acc.length + as.length ≤ sizeLine →
    (∀ a ∈ as, ∀ (R : D → Prop) (S : Prop), (p a = true → R (φ a)) → (p a = false → S) → g (enc a) env fun e1 => ft e1 fun b => if b = true then fe e1 R else S) →
    Q (acc ++ (as.filter p).map φ) → compL g ft fe env (as.map enc) acc Q
  | [], acc, _, _, q => by simpa [compL] using q
  | a :: as, acc, hl, h, q => by
    show g (enc a) env fun env1 => ft env1 fun b => if b = true then fe env1 fun y => acc.length < sizeLine ∧ compL g ft fe env (as.map enc) (acc ++ [y]) Q else compL g ft fe env (as.map enc) acc Q
    refine h a (by simp) _ _ (fun hp => ⟨by simp at hl; omega, ?_⟩) (fun hp => ?_)
    · refine compL_gen as _ (by simp at hl ⊢; omega) (fun b hb => h b (by simp [hb])) ?_
      rw [List.filter_cons_of_pos hp] at q
      simpa using q
    · refine compL_gen as _ (by simp at hl ⊢; omega) (fun b hb => h b (by simp [hb])) ?_
      rw [List.filter_cons_of_neg (by simp [hp])] at q
      exact q
theorem compL_map {φ : α → D} {Q : List D → Prop} {as : List α} (hl : as.length ≤ sizeLine) (h : ∀ a ∈ as, ∀ (R : D → Prop), R (φ a) → g (enc a) env fun e1 => fe e1 R) (q : Q (as.map φ)) : compL g fYes fe env (as.map enc) [] Q := by
  refine compL_gen (p := fun _ => true) (φ := φ) as [] (by simpa using hl) (fun a ha R S h1 _ => ?_) (by rw [List.filter_eq_self.mpr (by simp)]; simpa using q)
  exact h a ha R (h1 rfl)
/-- a walk with an invariant over what is left -/
theorem loopL_inv {E : DEnds} (I : List α → DL.Env → Prop) (he : ∀ e, I [] e → E.nx e)
    (hs : ∀ (a : α) (r : List α) (e : DL.Env) (nx : DL.Env → Prop), (∀ e, I r e → nx e) → I (a :: r) e → g (enc a) e fun e1 => fb { nx := nx, rt := E.rt, bk := E.nx, ct := nx } e1) : ∀ (as : List α) (env : DL.Env), I as env → loopL g fb E (as.map enc) env
  | [], env, h => he env h
  | a :: as, env, h => hs a as env (loopL g fb E (as.map enc)) (fun e he' => loopL_inv I he hs as e he') h
/-- the same, the items within as -/
theorem loopL_mem {E : DEnds} (as : List α) (I : List α → DL.Env → Prop) (he : ∀ e, I [] e → E.nx e)
    (hs : ∀ (a : α) (r : List α) (e : DL.Env) (nx : DL.Env → Prop), a ∈ as → (∀ e, I r e → nx e) → I (a :: r) e → g (enc a) e fun e1 => fb { nx := nx, rt := E.rt, bk := E.nx, ct := nx } e1) (env : DL.Env) (h : I as env) : loopL g fb E (as.map enc) env := by
  have : ∀ (bs : List α), (∀ b ∈ bs, b ∈ as) → ∀ env, I bs env → loopL g fb E (bs.map enc) env := by
    intro bs
    induction bs with
    | nil => intro _ env h; exact he env h
    | cons b bs ih => intro hm env h; exact hs b bs env _ (hm b (by simp)) (fun e he' => ih (fun c hc => hm c (by simp [hc])) e he') h
  exact this as (fun _ h => h) env h
end
theorem rngD_nat (n : Nat) : rngD 0 (n : Int) = (List.range n).map fun k => .int (k : Int) := by
  unfold rngD; simp
@[simp] theorem iLst_eq (f : FE) (env : DL.Env) (R : List D → Prop) : iLst f env R = f env fun x => match x with | .list xs => R xs | _ => False := id rfl
@[simp] theorem nLc_eq (own : List Nat) (fi : FI) (g : FG) (ft : FT) (fe : FE) (env : DL.Env) (R : List D → Prop) : nLc own fi g ft fe env R = fi env fun xs => compL g ft fe (wipeE env own) xs [] R := id rfl
@[simp] theorem wipe_nil (env : DL.Env) : wipeE env [] = env := id rfl
@[simp] theorem wipe_cons (env : DL.Env) (i : Nat) (is : List Nat) : wipeE env (i :: is) = (wipeE env is).set i .un := id rfl
/-! ### sums -/
def szs (qs : List Rat) : Nat := (qs.map fun q => sz q + 1).sum
theorem szs_le {qs : List Rat} {n : Nat} (h : ∀ q ∈ qs, sz q ≤ n) : szs qs ≤ qs.length * (n + 1) := by
  induction qs with
  | nil => simp [szs]
  | cons q qs ih =>
    have h1 := h q (by simp)
    have h2 := ih fun x hx => h x (by simp [hx])
    simp only [szs, List.map_cons, List.sum_cons, List.length_cons] at h2 ⊢
    rw [Nat.add_mul]; omega
theorem sz_foldl (qs : List Rat) : ∀ a : Rat, sz (qs.foldl (· + ·) a) ≤ sz a + szs qs := by
  induction qs with
  | nil => intro a; simp [szs]
  | cons q qs ih =>
    intro a
    have h1 := ih (a + q)
    have h2 := sz_add a q
    simp only [szs, List.map_cons, List.sum_cons, List.foldl_cons] at h1 ⊢
    omega
def tot (qs : List Rat) : Rat := qs.foldl (· + ·) 0
theorem sz_tot (qs : List Rat) : sz (tot qs) ≤ szs qs + 1 := by have := sz_foldl qs 0; rw [sz_0] at this; unfold tot; omega
theorem foldl_add (qs : List Rat) : ∀ a : Rat, qs.foldl (· + ·) a = a + qs.foldl (· + ·) 0 := by
  induction qs with
  | nil => intro a; show a = a + 0; grind
  | cons q qs ih => intro a; rw [List.foldl_cons, List.foldl_cons, ih (a + q), ih (0 + q)]; grind
theorem tot_nil : tot [] = 0 := rfl
theorem tot_cons (q : Rat) (qs : List Rat) : tot (q :: qs) = q + tot qs := by unfold tot; rw [List.foldl_cons, foldl_add]; grind
theorem tot_append (xs ys : List Rat) : tot (xs ++ ys) = tot xs + tot ys := by
  induction xs with
  | nil => rw [List.nil_append, tot_nil]; grind
  | cons x xs ih => rw [List.cons_append, tot_cons, tot_cons, ih]; grind
theorem w_sum {qs : List Rat} {Q : D → Prop} (hs : szs qs + 1 < 9000) (h : Q (fr (tot qs))) : W_sum_of [.d (.list (qs.map fr))] Q := by
  simp only [W_sum_of, B_sum_of, runD_eq, sSeq_eq, sAsg_eq, fC_eq, gNm_eq, sFor_eq]
  refine loopL_inv (enc := fr) (fun r e => ∃ (a : Rat) (s : Slot), e = [.d (.list (qs.map fr)), .d (fr a), s] ∧ sz a + szs r < 9000 ∧ r.foldl (· + ·) a = tot qs) ?_ ?_ qs _ ⟨0, .un, rfl, by rw [sz_0]; omega, rfl⟩
  · rintro e ⟨a, s, rfl, _, e⟩
    have : a = tot qs := e
    subst this
    exact h
  · rintro q r e nx hn ⟨a, s, rfl, h1, h2⟩
    simp only [szs, List.map_cons, List.sum_cons, List.foldl_cons] at h1 h2
    simp
    refine w_plus (by omega) (hn _ ⟨a + q, .d (fr q), rfl, ?_, h2⟩)
    have := sz_add a q
    simp only [szs]; omega
theorem w_ltotal {qs : List Rat} {Q : D → Prop} (hs : szs qs + 1 < 9000) (h : Q (fr (tot qs))) : W__law_total_k29 [.d (.list (qs.map fr))] Q := by
  simp only [W__law_total_k29, B__law_total_k29, runD_eq, sSeq_eq, sAsg_eq, fC_eq, gNm_eq, sFor_eq]
  refine loopL_inv (enc := fr) (fun r e => ∃ (a : Rat) (s : Slot), e = [.d (.list (qs.map fr)), .d (fr a), s] ∧ sz a + szs r < 9000 ∧ r.foldl (· + ·) a = tot qs) ?_ ?_ qs _ ⟨0, .un, rfl, by rw [sz_0]; omega, rfl⟩
  · rintro e ⟨a, s, rfl, _, e⟩
    have : a = tot qs := e
    subst this
    exact h
  · rintro q r e nx hn ⟨a, s, rfl, h1, h2⟩
    simp only [szs, List.map_cons, List.sum_cons, List.foldl_cons] at h1 h2
    simp
    refine w_ladd (by omega) (hn _ ⟨a + q, .d (fr q), rfl, ?_, h2⟩)
    have := sz_add a q
    simp only [szs]; omega
/-! ### equality of data -/
theorem eqD_fr (a b : Rat) : eqD (fr a) (fr b) = decide (a = b) := by
  rw [Bool.eq_iff_iff]
  simp only [eqD, fr, PyData.eqv, PyData.eqvAll, Bool.and_eq_true, beq_iff_eq, decide_eq_true_eq]
  constructor
  · rintro ⟨h1, h2, _⟩
    exact Rat.ext h1 (by omega)
  · rintro rfl
    exact ⟨rfl, rfl, trivial⟩
theorem okN_fr (a : Rat) : okN 1 (fr a) := okN_tuple (n := 0) fun x hx => by
  simp at hx
  rcases hx with rfl | rfl
  · exact okN_int _
  · exact okN_int _
@[simp] theorem ok_fr (a : Rat) : okD (fr a) = true := okD_of (okN_fr a)
theorem fr_inj {a b : Rat} (h : fr a = fr b) : a = b := by
  have := eqD_fr a b
  rw [h, eqD_fr] at this
  simpa using this.symm
theorem eqvAll_map {α : Type} {enc : α → D} (h : ∀ a b, eqD (enc a) (enc b) = true ↔ a = b) : ∀ xs ys : List α, PyData.eqvAll (xs.map enc) (ys.map enc) = true ↔ xs = ys
  | [], [] => by simp [PyData.eqvAll]
  | [], _ :: _ => by simp [PyData.eqvAll]
  | _ :: _, [] => by simp [PyData.eqvAll]
  | x :: xs, y :: ys => by
    have h1 := h x y
    have h2 := eqvAll_map h xs ys
    simp only [List.map_cons, PyData.eqvAll, Bool.and_eq_true, List.cons.injEq]
    rw [h2]
    constructor
    · rintro ⟨a, b⟩; exact ⟨h1.mp a, b⟩
    · rintro ⟨a, b⟩; exact ⟨h1.mpr a, b⟩
/-! ### draws -/
theorem w_draw {n : Int} {Q : D → Prop} (h0 : 0 < n) (h1 : n < 2 ^ 60) (h : ∀ v : Nat, (v : Int) < n → Q (.int v)) : W__law_draw [.pool, .d (.int n)] Q := by
  refine ⟨h0, ?_, fun v hv hn => ?_⟩
  · have : n.natAbs < 2 ^ 60 := by omega
    exact Nat.lt_trans (log2_lt_of this (by decide)) (by decide)
  · obtain ⟨k, rfl⟩ := Int.eq_ofNat_of_zero_le hv
    exact h k hn
theorem w_next {Q : D → Prop} (h : Q .none) : W__law_next [.pool] Q := h
@[simp] theorem faPool_eq (i : Nat) (r : FA) (env : DL.Env) (R : List Slot → Prop) : faPool i r env R = match env[i]? with | some .pool => r env fun xs => R (.pool :: xs) | _ => False := id rfl
theorem law_mixed_ok (p q : Int) (Q : D → Prop) (h : ∀ v : Int, Q (.int v)) : W__law_mixed [.d (.int p), .d (.int q)] Q := by
  have L : ∀ x m : Int, 0 < m → m < 2 ^ 120 → (x % m).natAbs.log2 < 120 := fun x m h0 h1 => by
    have a := Int.emod_nonneg x (b := m) (by omega)
    have b := Int.emod_lt_of_pos x h0
    exact log2_lt_of (by omega) (by decide)
  simp [W__law_mixed, B__law_mixed]
  have l1 := L (p * 48271 + q * 69621 + 11) 618970019642690137449562111 (by decide) (by decide)
  refine ⟨.inl (by omega), .inl ?_, .inl ?_, h _⟩
  · have l2 := L ((p * 48271 + q * 69621 + 11) % 618970019642690137449562111 * ((p * 48271 + q * 69621 + 11) % 618970019642690137449562111) + 7 * ((p * 48271 + q * 69621 + 11) % 618970019642690137449562111) + q) 162259276829213363391578010288127 (by decide) (by decide)
    exact Nat.lt_trans (Nat.add_lt_add l2 l2) (by decide)
  · have l2 := L ((p * 48271 + q * 69621 + 11) % 618970019642690137449562111 * ((p * 48271 + q * 69621 + 11) % 618970019642690137449562111) + 7 * ((p * 48271 + q * 69621 + 11) % 618970019642690137449562111) + q) 162259276829213363391578010288127 (by decide) (by decide)
    exact Nat.lt_trans (Nat.add_lt_add_right l2 _) (by decide +kernel)
end TW

set_option Elab.async false
set_option linter.all false
set_option maxRecDepth 100000
/-! SBeam: printed by gen.py: the semantics of defs over data. -/
namespace TW
open PySem DL
def B_value_at : FS := (sSeq (sAsg (fC (.tuple [.int 0, .int 1])) (gNm 2))
 (sSeq (sFor (iLst (fRev (fVarT 0))) (gNm 3)
 (sAsg (fCall W_plus (faD (fCall W_times (faD (fVar 2) (faD (fVar 1) faNil))) (faD (fVar 3) faNil))) (gNm 2)))
 (sRet (fVar 2))))
def W_value_at : W := runD 4 B_value_at
def B_product : FS := (sSeq (sOwn 2 (nOf (fBin gMul (fOfN (nLst (fsCons (fC (.tuple [.int 0, .int 1])) fsNil))) (fBin gSub (fBin gAdd (fBlt bLen (fsCons (fVarT 0) fsNil)) (fBlt bLen (fsCons (fVarT 1) fsNil))) (fC (.int 1))))))
 (sSeq (sFor (iEnum (fVar 0)) (gTp (gsCons (gNm 3) (gsCons (gNm 4) gsNil)))
 (sFor (iEnum (fVar 1)) (gTp (gsCons (gNm 5) (gsCons (gNm 6) gsNil)))
 (sAsg (fCall W_plus (faD (fBin gIx (fVarT 2) (fBin gAdd (fVarT 3) (fVarT 5))) (faD (fCall W_times (faD (fVar 4) (faD (fVar 6) faNil))) faNil))) (gItem 2 (fBin gAdd (fVarT 3) (fVarT 5))))))
 (sFrz 2 (sRet (fVar 2)))))
def W_product : W := runD 7 B_product
def B_integral : FS := (sSeq (sAsg (fBin gAdd (fOfN (nLst (fsCons (fC (.tuple [.int 0, .int 1])) fsNil))) (fOfN (nLc [4, 5] (iEnum (fVar 0)) (gTp (gsCons (gNm 4) (gsCons (gNm 5) gsNil))) fYes (fCall W_frac (faD (fBin gIx (fVarT 5) (fC (.int 0))) (faD (fBin gMul (fBin gIx (fVarT 5) (fC (.int 1))) (fBin gAdd (fVarT 4) (fC (.int 1)))) faNil)))))) (gNm 3))
 (sRet (fCall W_minus (faD (fCall W_value_at (faD (fVar 3) (faD (fVar 2) faNil))) (faD (fCall W_value_at (faD (fVar 3) (faD (fVar 1) faNil))) faNil)))))
def W_integral : W := runD 6 B_integral
def B_whole_of : FS := (sSeq (sIf (fB (fBin gEq (fBin gIx (fVarT 0) (fC (.int 0))) (fC (.str "point"))))
 (sRet (fTup (fsCons (fBin gIx (fVarT 0) (fC (.int 2))) (fsCons (fBin gIx (fVarT 0) (fC (.int 1))) fsNil))))
 sNext)
 (sRet (fTup (fsCons (fCall W_times (faD (fBin gIx (fVarT 0) (fC (.int 3))) (faD (fCall W_minus (faD (fBin gIx (fVarT 0) (fC (.int 2))) (faD (fBin gIx (fVarT 0) (fC (.int 1))) faNil))) faNil))) (fsCons (fCall W_times (faD (fC (.tuple [.int 1, .int 2])) (faD (fCall W_plus (faD (fBin gIx (fVarT 0) (fC (.int 1))) (faD (fBin gIx (fVarT 0) (fC (.int 2))) faNil))) faNil))) fsNil)))))
def W_whole_of : W := runD 1 B_whole_of
def B_two_pushes : FS := (sSeq (sAsg (fVar 1) (gTp (gsCons (gNm 3) (gsCons (gNm 4) gsNil))))
 (sSeq (sAsg (fOfN (nLc [8] (iLst (fVar 2)) (gNm 8) fYes (fCall W_whole_of (faD (fVar 8) faNil)))) (gNm 5))
 (sSeq (sAsg (fCall W_sum_of (faD (fOfN (nLc [9, 10] (iLst (fVar 5)) (gTp (gsCons (gNm 9) (gsCons (gNm 10) gsNil))) fYes (fCall W_times (faD (fVar 9) (faD (fCall W_minus (faD (fVar 10) (faD (fVar 3) faNil))) faNil))))) faNil)) (gNm 6))
 (sSeq (sAsg (fCall W_over (faD (fVar 6) (faD (fCall W_minus (faD (fVar 4) (faD (fVar 3) faNil))) faNil))) (gNm 7))
 (sRet (fOfN (nLst (fsCons (fCall W_minus (faD (fCall W_sum_of (faD (fOfN (nLc [9, 11] (iLst (fVar 5)) (gTp (gsCons (gNm 9) (gsCons (gNm 11) gsNil))) fYes (fVar 9))) faNil)) (faD (fVar 7) faNil))) (fsCons (fVar 7) fsNil)))))))))
def W_two_pushes : W := runD 12 B_two_pushes
def B_places_in : FS := (sSeq (sOwn 3 (nOf (fBin gAdd (fOfN (nLst (fsCons (fC (.tuple [.int 0, .int 1])) (fsCons (fVar 0) fsNil)))) (fBlt bList (fsCons (fVarT 1) fsNil)))))
 (sSeq (sFor (iLst (fVar 2)) (gNm 4)
 (sExt 3 (fBlt bList (fsCons (fIte (fB (fBin gEq (fBin gIx (fVarT 4) (fC (.int 0))) (fC (.str "point")))) (fSl (fVarT 4) (fPart (fC (.int 1))) (fPart (fC (.int 2)))) (fSl (fVarT 4) (fPart (fC (.int 1))) (fPart (fC (.int 3))))) fsNil))))
 (sSeq (sOwn 5 (nLst fsNil))
 (sSeq (sFrz 3 (sFor (iLst (fVar 3)) (gNm 6)
 (sSeq (sAsg (fC (.int 0)) (gNm 7))
 (sSeq (sWhile (fAnd (fB (fBin gLtI (fVarT 7) (fBlt bLen (fsCons (fVarT 5) fsNil)))) (fTru (fCall W_less (faD (fBin gIx (fVarT 5) (fVarT 7)) (faD (fVar 6) faNil)))))
 (sAsg (fBin gAdd (fVarT 7) (fC (.int 1))) (gNm 7)))
 (sIf (fOr (fB (fBin gEq (fVarT 7) (fBlt bLen (fsCons (fVarT 5) fsNil)))) (fB (fBin gNe (fBin gIx (fVarT 5) (fVarT 7)) (fVarT 6))))
 (sIns 5 (fVar 7) (fVar 6))
 sNext)))))
 (sFrz 5 (sRet (fVar 5)))))))
def W_places_in : W := runD 8 B_places_in
def B_moment_of : FS := (sRet (fOfN (nLst (fsCons (fCall W_minus (faD (fC (.tuple [.int 0, .int 1])) (faD (fCall W_times (faD (fVar 0) (faD (fVar 1) faNil))) faNil))) (fsCons (fVar 0) (fsCons (fC (.tuple [.int 0, .int 1])) fsNil))))))
def W_moment_of : W := runD 2 B_moment_of
def B_spread_moment : FS := (sSeq (sAsg (fVar 0) (gTp (gsCons (gNm 2) (gsCons (gNm 3) (gsCons (gNm 4) (gsCons (gNm 5) gsNil))))))
 (sSeq (sIf (fTru (fCall W_less (faD (fVar 1) (faD (fVar 3) faNil))))
 (sRet (fBin gMul (fOfN (nLst (fsCons (fC (.tuple [.int 0, .int 1])) fsNil))) (fC (.int 3))))
 sNext)
 (sSeq (sIf (fNot (fTru (fCall W_less (faD (fVar 1) (faD (fVar 4) faNil)))))
 (sSeq (sAsg (fCall W_whole_of (faD (fVar 0) faNil)) (gTp (gsCons (gNm 6) (gsCons (gNm 7) gsNil))))
 (sRet (fCall W_moment_of (faD (fCall W_minus (faD (fC (.tuple [.int 0, .int 1])) (faD (fVar 6) faNil))) (faD (fVar 7) faNil)))))
 sNext)
 (sSeq (sAsg (fCall W_times (faD (fC (.tuple [.int 1, .int 2])) (faD (fVar 5) faNil))) (gNm 8))
 (sRet (fOfN (nLst (fsCons (fCall W_minus (faD (fC (.tuple [.int 0, .int 1])) (faD (fCall W_times (faD (fVar 8) (faD (fCall W_times (faD (fVar 3) (faD (fVar 3) faNil))) faNil))) faNil))) (fsCons (fCall W_times (faD (fVar 5) (faD (fVar 3) faNil))) (fsCons (fCall W_minus (faD (fC (.tuple [.int 0, .int 1])) (faD (fVar 8) faNil))) fsNil))))))))))
def W_spread_moment : W := runD 9 B_spread_moment
def B_pieces : FS := (sSeq (sAsg (fCall W_places_in (faD (fVar 0) (faD (fVar 1) (faD (fVar 2) faNil)))) (gNm 4))
 (sSeq (sOwn 5 (nLst fsNil))
 (sSeq (sFor (iZip false (fVar 4) (fSl (fVarT 4) (fPart (fC (.int 1))) fNoPart)) (gTp (gsCons (gNm 6) (gsCons (gNm 7) gsNil)))
 (sSeq (sAsg (fBin gMul (fOfN (nLst (fsCons (fC (.tuple [.int 0, .int 1])) fsNil))) (fC (.int 3))) (gNm 8))
 (sSeq (sFor (iZip true (fVar 1) (fVar 3)) (gTp (gsCons (gNm 9) (gsCons (gNm 10) gsNil)))
 (sIf (fNot (fTru (fCall W_less (faD (fVar 6) (faD (fVar 9) faNil)))))
 (sAsg (fOfN (nLc [13, 14] (iZip true (fVar 8) (fCall W_moment_of (faD (fVar 10) (faD (fVar 9) faNil)))) (gTp (gsCons (gNm 13) (gsCons (gNm 14) gsNil))) fYes (fCall W_plus (faD (fVar 13) (faD (fVar 14) faNil))))) (gNm 8))
 sNext))
 (sSeq (sFor (iLst (fVar 2)) (gNm 11)
 (sSeq (sIf (fB (fBin gEq (fBin gIx (fVarT 11) (fC (.int 0))) (fC (.str "spread"))))
 (sAsg (fCall W_spread_moment (faD (fVar 11) (faD (fVar 6) faNil))) (gNm 12))
 (sAsg (fIte (fNot (fTru (fCall W_less (faD (fVar 6) (faD (fBin gIx (fVarT 11) (fC (.int 1))) faNil))))) (fCall W_moment_of (faD (fCall W_minus (faD (fC (.tuple [.int 0, .int 1])) (faD (fBin gIx (fVarT 11) (fC (.int 2))) faNil))) (faD (fBin gIx (fVarT 11) (fC (.int 1))) faNil))) (fBin gMul (fOfN (nLst (fsCons (fC (.tuple [.int 0, .int 1])) fsNil))) (fC (.int 3)))) (gNm 12)))
 (sAsg (fOfN (nLc [13, 14] (iZip true (fVar 8) (fVar 12)) (gTp (gsCons (gNm 13) (gsCons (gNm 14) gsNil))) fYes (fCall W_plus (faD (fVar 13) (faD (fVar 14) faNil))))) (gNm 8))))
 (sApp 5 (fTup (fsCons (fVar 6) (fsCons (fVar 7) (fsCons (fVar 8) fsNil)))))))))
 (sFrz 5 (sRet (fVar 5))))))
def W_pieces : W := runD 15 B_pieces
def B_judge_balance : FS := (sSeq (sIf (fB (fBin gNe (fBlt bLen (fsCons (fVarT 2) fsNil)) (fBlt bLen (fsCons (fVarT 0) fsNil))))
 (sRet (fC (.bool false)))
 sNext)
 (sSeq (sAsg (fOfN (nLc [5] (iLst (fVar 1)) (gNm 5) fYes (fCall W_whole_of (faD (fVar 5) faNil)))) (gNm 3))
 (sSeq (sIf (fB (fBin gNe (fCall W_sum_of (faD (fVar 2) faNil)) (fCall W_sum_of (faD (fOfN (nLc [6, 7] (iLst (fVar 3)) (gTp (gsCons (gNm 6) (gsCons (gNm 7) gsNil))) fYes (fVar 6))) faNil))))
 (sRet (fC (.bool false)))
 sNext)
 (sSeq (sAsg (fCall W_sum_of (faD (fOfN (nLc [8, 9] (iZip true (fVar 2) (fVar 0)) (gTp (gsCons (gNm 8) (gsCons (gNm 9) gsNil))) fYes (fCall W_times (faD (fVar 8) (faD (fVar 9) faNil))))) faNil)) (gNm 4))
 (sRet (fBin gEq (fVarT 4) (fCall W_sum_of (faD (fOfN (nLc [6, 9] (iLst (fVar 3)) (gTp (gsCons (gNm 6) (gsCons (gNm 9) gsNil))) fYes (fCall W_times (faD (fVar 6) (faD (fVar 9) faNil))))) faNil))))))))
def W_judge_balance : W := runD 10 B_judge_balance
end TW

set_option Elab.async false
set_option linter.all false
set_option maxRecDepth 100000
set_option maxHeartbeats 1000000
set_option exponentiation.threshold 10000
/-! KBeam: loads, and what the beams' defs compute. -/
namespace TW
open PySem DL
structure Ld where
  pt : Bool
  lo : Rat
  hi : Rat
  f : Rat
def ld (l : Ld) : D := match l.pt with
  | true => .tuple [.str "point", fr l.lo, fr l.f]
  | false => .tuple [.str "spread", fr l.lo, fr l.hi, fr l.f]
structure Ld.B (n : Nat) (l : Ld) : Prop where
  lo : sz l.lo ≤ n
  hi : sz l.hi ≤ n
  f : sz l.f ≤ n
theorem fr_half : (PyData.tuple [.int 1, .int 2]) = fr (1/2) := by
  have h1 : (1/2 : Rat).num = 1 := by decide +kernel
  have h2 : (1/2 : Rat).den = 2 := by decide +kernel
  unfold fr; rw [h1, h2]; rfl
theorem fr_0 : (PyData.tuple [.int 0, .int 1]) = fr 0 := rfl
theorem fr_1 : (PyData.tuple [.int 1, .int 1]) = fr 1 := rfl
theorem sz_half : sz (1/2) = 2 := by decide +kernel
@[simp] theorem ok_point : okD (.str "point") = true := by decide +kernel
@[simp] theorem ok_spread : okD (.str "spread") = true := by decide +kernel
@[simp] theorem eq_pp : eqD (.str "point") (.str "point") = true := by decide +kernel
@[simp] theorem eq_sp : eqD (.str "spread") (.str "point") = false := by decide +kernel
@[simp] theorem eq_ps : eqD (.str "point") (.str "spread") = false := by decide +kernel
@[simp] theorem eq_ss : eqD (.str "spread") (.str "spread") = true := by decide +kernel
def Ld.w (l : Ld) : Rat := if l.pt then l.f else l.f * (l.hi - l.lo)
def Ld.m (l : Ld) : Rat := if l.pt then l.lo else 1/2 * (l.lo + l.hi)
theorem Ld.B.w {n : Nat} {l : Ld} (h : l.B n) : sz l.w ≤ 3 * n + 1 := by
  unfold Ld.w
  have h1 := sz_mul l.f (l.hi - l.lo)
  have h2 := sz_sub l.hi l.lo
  have := h.lo; have := h.hi; have := h.f
  split <;> omega
theorem Ld.B.m {n : Nat} {l : Ld} (h : l.B n) : sz l.m ≤ 2 * n + 3 := by
  unfold Ld.m
  have h1 := sz_mul (1/2) (l.lo + l.hi)
  have h2 := sz_add l.lo l.hi
  have := h.lo; have := h.hi; have := sz_half
  split <;> omega
section
variable {n : Nat} {l : Ld} {Q : D → Prop}
theorem w_whole (b : l.B n) (hn : n < 1000) (h : Q (.tuple [fr l.w, fr l.m])) : W_whole_of [.d (ld l)] Q := by
  obtain ⟨pt, lo, hi, f⟩ := l
  have := b.lo; have := b.hi; have := b.f
  cases pt
  · simp [W_whole_of, B_whole_of, ld]
    simp only [] at *
    refine w_minus (by omega) (w_times ?_ ?_)
    · have := sz_sub hi lo; omega
    · rw [fr_half]
      refine w_plus (by omega) (w_times ?_ h)
      have := sz_add lo hi; have := sz_half; omega
  · simp [W_whole_of, B_whole_of, ld]
    exact h
theorem w_lforce (b : l.B n) (hn : n < 1000) (h : Q (fr l.w)) : W__law_force [.d (ld l)] Q := by
  obtain ⟨pt, lo, hi, f⟩ := l
  have := b.lo; have := b.hi; have := b.f
  cases pt
  · simp [W__law_force, B__law_force, ld]
    simp only [] at *
    refine w_lsub (by omega) (w_lmul ?_ h)
    have := sz_sub hi lo; omega
  · simp [W__law_force, B__law_force, ld]
    exact h
end
theorem ld_eqD (a b : Ld) : okD (ld a) = true := by
  have : okN 2 (ld a) := by
    unfold ld
    split <;> refine okN_tuple fun x hx => ?_ <;> simp at hx
    · rcases hx with rfl | rfl | rfl
      · exact okN_str (by decide +kernel)
      · exact okN_fr _
      · exact okN_fr _
    · rcases hx with rfl | rfl | rfl | rfl
      · exact okN_str (by decide +kernel)
      · exact okN_fr _
      · exact okN_fr _
      · exact okN_fr _
  exact okD_of this
/-! ### the two pushes, balance -/
theorem szs_map_le {α : Type} {as : List α} {φ : α → Rat} {m : Nat} (h : ∀ a ∈ as, sz (φ a) + 1 ≤ m) : szs (as.map φ) ≤ as.length * m := by
  induction as with
  | nil => simp [szs]
  | cons q qs ih =>
    have h1 := h q (by simp)
    have h2 := ih fun x hx => h x (by simp [hx])
    simp only [szs, List.map_cons, List.sum_cons, List.length_cons] at h2 ⊢
    rw [Nat.add_mul]; omega
def wm (l : Ld) : D := .tuple [fr l.w, fr l.m]
def right (a : Rat) (ls : List Ld) : Rat := tot (ls.map fun l => l.w * (l.m - a))
def wsum (ls : List Ld) : Rat := tot (ls.map Ld.w)
def msum (ls : List Ld) : Rat := tot (ls.map fun l => l.w * l.m)
def push2 (a b : Rat) (ls : List Ld) : Rat := right a ls / (b - a)
def push1 (a b : Rat) (ls : List Ld) : Rat := wsum ls - push2 a b ls
theorem sz_right {n k : Nat} {a : Rat} {ls : List Ld} (hb : ∀ l ∈ ls, l.B n) (ha : sz a ≤ k) : sz (right a ls) ≤ ls.length * (5 * n + k + 6) + 1 := by
  have := sz_tot (ls.map fun l => l.w * (l.m - a))
  have h2 := szs_map_le (as := ls) (φ := fun l => l.w * (l.m - a)) (m := 5 * n + k + 6) fun l hl => by
    have := sz_mul l.w (l.m - a); have := sz_sub l.m a; have := (hb l hl).w; have := (hb l hl).m
    show sz (l.w * (l.m - a)) + 1 ≤ _
    omega
  unfold right; omega
theorem sz_wsum {n : Nat} {ls : List Ld} (hb : ∀ l ∈ ls, l.B n) : sz (wsum ls) ≤ ls.length * (3 * n + 2) + 1 := by
  have := sz_tot (ls.map Ld.w)
  have h2 := szs_map_le (as := ls) (φ := Ld.w) (m := 3 * n + 2) fun l hl => by have := (hb l hl).w; omega
  unfold wsum; omega
theorem sz_push2 {n k : Nat} {a b : Rat} {ls : List Ld} (hb : ∀ l ∈ ls, l.B n) (ha : sz a ≤ k) (hb' : sz b ≤ k) (hne : a ≠ b) : sz (push2 a b ls) ≤ ls.length * (5 * n + k + 6) + 2 * k + 2 := by
  have h1 := sz_right hb ha
  have h2 := sz_div (right a ls) (b - a) (by intro h; exact hne (by grind))
  have h3 := sz_sub b a
  unfold push2; omega
theorem sz_push1 {n k : Nat} {a b : Rat} {ls : List Ld} (hb : ∀ l ∈ ls, l.B n) (ha : sz a ≤ k) (hb' : sz b ≤ k) (hne : a ≠ b) : sz (push1 a b ls) ≤ ls.length * (8 * n + k + 8) + 2 * k + 4 := by
  have h1 := sz_push2 hb ha hb' hne
  have h2 := sz_sub (wsum ls) (push2 a b ls)
  have h3 := sz_wsum hb
  have e : ls.length * (8 * n + k + 8) = ls.length * (5 * n + k + 6) + ls.length * (3 * n + 2) := by rw [← Nat.mul_add]; congr 1; omega
  unfold push1; omega
section
variable {n k : Nat} {Q : D → Prop} {ls : List Ld} {a b : Rat}
theorem w_two (L : D) (hb : ∀ l ∈ ls, l.B n) (ha : sz a ≤ k) (hb' : sz b ≤ k) (hne : a ≠ b) (hl : ls.length * (8 * n + k + 8) + 2 * k + 4 < 4000) (hn : n < 200) (hll : ls.length < 1000)
    (h : Q (.list [fr (push1 a b ls), fr (push2 a b ls)])) : W_two_pushes [.d L, .d (.list [fr a, fr b]), .d (.list (ls.map ld))] Q := by
  have e : ls.length * (8 * n + k + 8) = ls.length * (5 * n + k + 6) + ls.length * (3 * n + 2) := by rw [← Nat.mul_add]; congr 1; omega
  have hll : ls.length ≤ sizeLine := by show ls.length ≤ 16777216; omega
  simp [W_two_pushes, B_two_pushes]
  refine compL_map hll (φ := wm) (fun l hl' R r => ?_) ?_
  · simp
    exact w_whole (hb l hl') (by omega) r
  · refine compL_map hll (φ := fun l => fr (l.w * (l.m - a))) (fun l hl' R r => ?_) ?_
    · simp [wm]
      have h1 := (hb l hl').w
      have h2 := (hb l hl').m
      refine w_minus (by omega) (w_times ?_ r)
      have := sz_sub l.m a; omega
    · have hr := sz_right hb ha
      have hs : szs (ls.map fun l => l.w * (l.m - a)) ≤ ls.length * (5 * n + k + 6) := szs_map_le fun l hl => by
        have := sz_mul l.w (l.m - a); have := sz_sub l.m a; have := (hb l hl).w; have := (hb l hl).m
        show sz (l.w * (l.m - a)) + 1 ≤ _
        omega
      rw [show (List.map (fun l => fr (l.w * (l.m - a))) ls) = (ls.map fun l => l.w * (l.m - a)).map fr by simp]
      refine w_sum (by omega) ?_
      refine w_minus (by omega) ?_
      have := sz_sub b a
      show W_over [.d (fr (right a ls)), _] _
      refine w_over (by intro h; exact hne (by grind)) (by omega) ?_
      refine compL_map hll (φ := fun l => fr l.w) (fun l hl' R r => by simpa [wm] using r) ?_
      rw [show (List.map (fun l => fr l.w) ls) = (ls.map Ld.w).map fr by simp]
      have hs2 : szs (ls.map Ld.w) ≤ ls.length * (3 * n + 2) := szs_map_le fun l hl => by have := (hb l hl).w; omega
      refine w_sum (by omega) ?_
      have h3 := sz_push2 hb ha hb' hne
      have h4 := sz_wsum hb
      refine w_minus (a := wsum ls) (b := push2 a b ls) (by omega) ?_
      exact h
end
end TW

set_option Elab.async false
set_option linter.all false
set_option maxRecDepth 100000
set_option maxHeartbeats 400000
set_option exponentiation.threshold 10000
/-! KBal: pushes that balance the loads, as the judge and as the law say it. -/
namespace TW
open PySem DL
@[simp] theorem iZip_eq (s : Bool) (fa fb : FE) (env : DL.Env) (R : List D → Prop) : iZip s fa fb env R = fa env fun x => fb env fun y => match x, y with
  | .list xs, .list ys => (s = true → xs.length = ys.length) ∧ R (zipD xs ys)
  | _, _ => False := id rfl
theorem zipD_map {α β : Type} {f : α → D} {g : β → D} (xs : List α) (ys : List β) : zipD (xs.map f) (ys.map g) = (xs.zip ys).map fun p => .tuple [f p.1, g p.2] := by
  unfold zipD
  rw [List.zip_map, List.map_map]
  rfl
def mv (ps ss : List Rat) : Rat := tot ((ps.zip ss).map fun p => p.1 * p.2)
def bal (ss : List Rat) (ls : List Ld) (ps : List Rat) : Bool := decide (ps.length = ss.length) && (decide (tot ps = wsum ls) && decide (mv ps ss = msum ls))
structure BalB (n m : Nat) (ss : List Rat) (ls : List Ld) (ps : List Rat) : Prop where
  hb : ∀ l ∈ ls, l.B n
  hs : ∀ s ∈ ss, sz s ≤ n
  hp : ∀ p ∈ ps, sz p ≤ m
  l1 : ls.length * (5 * n + 5) < 4000
  l2 : ps.length * (n + m + 1) < 4000
  l3 : ls.length < 1000
  l4 : ps.length < 1000
  hn : n < 500
  hm : m < 4000
section
variable {n m : Nat} {ss ps : List Rat} {ls : List Ld} {Q : D → Prop}
theorem BalB.mw (b : BalB n m ss ls ps) : szs (ls.map fun l => l.w * l.m) ≤ ls.length * (5 * n + 5) := szs_map_le fun l hl => by
  have := sz_mul l.w l.m; have := (b.hb l hl).w; have := (b.hb l hl).m
  show sz (l.w * l.m) + 1 ≤ _
  omega
theorem BalB.ww (b : BalB n m ss ls ps) : szs (ls.map Ld.w) ≤ ls.length * (5 * n + 5) := szs_map_le fun l hl => by
  have := (b.hb l hl).w; omega
theorem BalB.pp (b : BalB n m ss ls ps) : szs ps ≤ ps.length * (n + m + 1) := by
  have := szs_map_le (as := ps) (φ := id) (m := n + m + 1) fun p hp => by have := b.hp p hp; simp only [id]; omega
  simpa using this
theorem BalB.pz (b : BalB n m ss ls ps) : szs ((ps.zip ss).map fun p => p.1 * p.2) ≤ ps.length * (n + m + 1) := by
  have := szs_map_le (as := ps.zip ss) (φ := fun p => p.1 * p.2) (m := n + m + 1) fun p hp => by
    have h1 := b.hp p.1 (List.of_mem_zip hp).1
    have h2 := b.hs p.2 (List.of_mem_zip hp).2
    have := sz_mul p.1 p.2
    show sz (p.1 * p.2) + 1 ≤ _
    omega
  refine Nat.le_trans this (Nat.mul_le_mul_right _ ?_)
  rw [List.length_zip]; omega
theorem w_judge_balance (b : BalB n m ss ls ps) (h : Q (.bool (bal ss ls ps))) : W_judge_balance [.d (.list (ss.map fr)), .d (.list (ls.map ld)), .d (.list (ps.map fr))] Q := by
  have hn := b.hn
  have hm := b.hm
  have hll : ls.length ≤ sizeLine := by have := b.l3; show ls.length ≤ 16777216; omega
  have hpl : (ps.zip ss).length ≤ sizeLine := by have := b.l4; rw [List.length_zip]; show _ ≤ 16777216; omega
  have l1 := b.l1; have l2 := b.l2; have mw := b.mw; have ww := b.ww; have pp := b.pp; have pz := b.pz
  by_cases he : ps.length = ss.length
  case neg =>
    have he' : ¬ (ps.length : Int) = ss.length := by omega
    rw [show bal ss ls ps = false by unfold bal; simp [he]] at h
    simp [W_judge_balance, B_judge_balance, he']
    exact h
  case pos =>
    have he' : (ps.length : Int) = ss.length := by omega
    simp [W_judge_balance, B_judge_balance, he']
    refine compL_map hll (φ := wm) (fun l hl' R r => ?_) ?_
    · simp
      exact w_whole (b.hb l hl') (by omega) r
    refine w_sum (by omega) ?_
    refine compL_map hll (φ := fun l => fr l.w) (fun l hl' R r => by simpa [wm] using r) ?_
    rw [show (List.map (fun l => fr l.w) ls) = (ls.map Ld.w).map fr by simp]
    refine w_sum (by omega) ?_
    refine ⟨ok_fr _, ok_fr _, ?_⟩
    rw [eqD_fr]
    change if decide (tot ps = wsum ls) = true then _ else _
    by_cases h1 : tot ps = wsum ls
    case neg =>
      rw [if_neg (by simpa using h1)]
      rw [show bal ss ls ps = false by unfold bal; simp [h1]] at h
      exact h
    case pos =>
      rw [if_pos (by simpa using h1)]
      refine ⟨he, ?_⟩
      rw [zipD_map]
      refine compL_map hpl (φ := fun p => fr (p.1 * p.2)) (fun p hp R r => ?_) ?_
      · simp
        have h1 := b.hp p.1 (List.of_mem_zip hp).1
        have h2 := b.hs p.2 (List.of_mem_zip hp).2
        exact w_times (by omega) r
      rw [show (List.map (fun p : Rat × Rat => fr (p.1 * p.2)) (ps.zip ss)) = ((ps.zip ss).map fun p => p.1 * p.2).map fr by simp]
      refine w_sum (by omega) ?_
      refine compL_map hll (φ := fun l => fr (l.w * l.m)) (fun l hl' R r => ?_) ?_
      · simp [wm]
        have := (b.hb l hl').w; have := (b.hb l hl').m
        exact w_times (by omega) r
      rw [show (List.map (fun l => fr (l.w * l.m)) ls) = (ls.map fun l => l.w * l.m).map fr by simp]
      refine w_sum (by omega) ?_
      refine ⟨ok_fr _, ok_fr _, ?_⟩
      rw [eqD_fr]
      show Q (.bool (decide (mv ps ss = msum ls)))
      rw [show bal ss ls ps = decide (mv ps ss = msum ls) by unfold bal; simp [he, h1]] at h
      exact h
theorem w_law_balances (b : BalB n m ss ls ps) (h : Q (.bool (bal ss ls ps))) : W__law_balances_k29 [.d (.list (ss.map fr)), .d (.list (ls.map ld)), .d (.list (ps.map fr))] Q := by
  have hn := b.hn
  have hm := b.hm
  have hll : ls.length ≤ sizeLine := by have := b.l3; show ls.length ≤ 16777216; omega
  have hpl : (List.range ps.length).length ≤ sizeLine := by have := b.l4; rw [List.length_range]; show _ ≤ 16777216; omega
  have l1 := b.l1; have l2 := b.l2; have mw := b.mw; have ww := b.ww; have pp := b.pp; have pz := b.pz
  by_cases he : ps.length = ss.length
  case neg =>
    have he' : ¬ (ps.length : Int) = ss.length := by omega
    rw [show bal ss ls ps = false by unfold bal; simp [he]] at h
    simp [W__law_balances_k29, B__law_balances_k29, he']
    exact h
  case pos =>
    have he' : (ps.length : Int) = ss.length := by omega
    simp [W__law_balances_k29, B__law_balances_k29, he']
    refine w_ltotal (by omega) ?_
    refine compL_map hll (φ := fun l => fr l.w) (fun l hl' R r => ?_) ?_
    · simp
      exact w_lforce (b.hb l hl') (by omega) r
    rw [show (List.map (fun l => fr l.w) ls) = (ls.map Ld.w).map fr by simp]
    refine w_ltotal (by omega) ?_
    refine ⟨ok_fr _, ok_fr _, ?_⟩
    rw [eqD_fr]
    change if decide (tot ps = wsum ls) = true then _ else _
    by_cases h1 : tot ps = wsum ls
    case neg =>
      rw [if_neg (by simpa using h1)]
      rw [show bal ss ls ps = false by unfold bal; simp [h1]] at h
      exact h
    case pos =>
      rw [if_pos (by simpa using h1)]
      show loopL _ _ _ _ _
      refine loopL_mem ls (fun r e => ∃ (xs : List Rat) (s1 s2 : Slot), e = [.d (.list (ss.map fr)), .d (.list (ls.map ld)), .d (.list (ps.map fr)), .own (xs.map fr), s1, s2, .un] ∧ xs ++ r.map (fun l => l.w * l.m) = ls.map fun l => l.w * l.m) ?_ ?_ _ ⟨[], .un, .un, rfl, rfl⟩
      · rintro e ⟨xs, s1, s2, rfl, hx⟩
        simp at hx
        subst hx
        simp [frzE, sFrz]
        have hr : ((ps.length : Nat) : Int) ≤ 4611686018427387904 - 1 := by have := b.l4; omega
        refine ⟨by omega, ?_⟩
        rw [rngD_nat]
        refine compL_map (enc := fun k : Nat => PyData.int (k : Int)) hpl (φ := fun k => fr (ps.getD k 0 * ss.getD k 0)) (fun k hk R r => ?_) ?_
        · have hk : k < ps.length := by simpa using hk
          simp
          rw [gIxL_n (x := fr (ps.getD k 0)) (by simp [List.getElem?_map, List.getD_eq_getElem?_getD, hk])]
          rw [gIxL_n (x := fr (ss.getD k 0)) (by simp [List.getElem?_map, List.getD_eq_getElem?_getD, he ▸ hk])]
          have h1 := b.hp (ps.getD k 0) (by simp [List.getD_eq_getElem?_getD, hk])
          have h2 := b.hs (ss.getD k 0) (by simp [List.getD_eq_getElem?_getD, he ▸ hk])
          exact w_lmul (by omega) r
        have ez : (List.range ps.length).map (fun k => fr (ps.getD k 0 * ss.getD k 0)) = ((ps.zip ss).map fun p => p.1 * p.2).map fr := by
          apply List.ext_getElem
          · simp; omega
          · intro i h1 h2
            have hi : i < ps.length := by simpa using h1
            simp [List.getD_eq_getElem?_getD, hi, he ▸ hi]
        rw [ez]
        refine w_ltotal (by omega) ?_
        rw [show (List.map (fr ∘ fun l : Ld => l.w * l.m) ls) = (ls.map fun l => l.w * l.m).map fr by simp]
        refine w_ltotal (by omega) ?_
        refine ⟨ok_fr _, ok_fr _, ?_⟩
        rw [eqD_fr]
        show Q (.bool (decide (mv ps ss = msum ls)))
        rw [show bal ss ls ps = decide (mv ps ss = msum ls) by unfold bal; simp [he, h1]] at h
        exact h
      · rintro l r e nx hl hnx ⟨xs, s1, s2, rfl, hx⟩
        have hB := b.hb l hl
        have hw := hB.w
        have hmm := hB.m
        have hlen : xs.length < sizeLine := by
          have e1 := congrArg List.length hx
          have := b.l3
          show xs.length < 16777216
          simp at e1; omega
        have fin : ∀ (s1 s2 : Slot), nx [.d (.list (ss.map fr)), .d (.list (ls.map ld)), .d (.list (ps.map fr)), .own ((xs ++ [l.w * l.m]).map fr), s1, s2, .un] := fun s1 s2 => hnx _ ⟨xs ++ [l.w * l.m], s1, s2, rfl, by simpa using hx⟩
        obtain ⟨pt, lo, hi, f⟩ := l
        have := hB.lo; have := hB.hi; have := hB.f
        cases pt
        · simp [ld, sApp, mutS]
          simp only [] at *
          refine w_ladd (by omega) ?_
          rw [fr_half]
          have := sz_add lo hi; have := sz_half
          refine w_lmul (by omega) ?_
          refine w_lforce (l := ⟨false, lo, hi, f⟩) hB (by omega) ?_
          refine w_lmul (by simpa [Ld.m] using (by omega : sz (Ld.w ⟨false, lo, hi, f⟩) + sz (Ld.m ⟨false, lo, hi, f⟩) < 9000)) ⟨hlen, ?_⟩
          simpa [Ld.m] using fin _ _
        · simp [ld, sApp, mutS]
          refine w_lforce (l := ⟨true, lo, hi, f⟩) hB (by omega) ?_
          refine w_lmul (a := Ld.w ⟨true, lo, hi, f⟩) (b := Ld.m ⟨true, lo, hi, f⟩) (by omega) ⟨hlen, ?_⟩
          simpa using fin _ _
end
end TW

set_option Elab.async false
set_option linter.all false
set_option maxRecDepth 100000
set_option maxHeartbeats 400000
set_option exponentiation.threshold 10000
/-! KPiece: breaks and pieces of a beam. -/
namespace TW
open PySem DL
/-! ### inserting in order -/
def insQ (x : Rat) : List Rat → List Rat
  | [] => [x]
  | y :: ys => if y < x then y :: insQ x ys else if y = x then y :: ys else x :: y :: ys
theorem insQ_at (x : Rat) : ∀ (l : List Rat) (k : Nat), k ≤ l.length → (∀ i y, i < k → l[i]? = some y → y < x) → (∀ y, l[k]? = some y → ¬ y < x) →
    insQ x l = if l[k]? = some x then l else l.take k ++ [x] ++ l.drop k
  | [], k, hk, _, _ => by
    have : k = 0 := by simpa using hk
    subst this; simp [insQ]
  | y :: ys, 0, _, _, h2 => by
    have := h2 y rfl
    unfold insQ
    rw [if_neg this]
    by_cases e : y = x
    · simp [e]
    · simp [e]
  | y :: ys, k + 1, hk, h1, h2 => by
    have hy := h1 0 y (by omega) rfl
    have ih := insQ_at x ys k (by simpa using hk) (fun i z hi hz => h1 (i + 1) z (by omega) (by simpa using hz)) (fun z hz => h2 z (by simpa using hz))
    unfold insQ
    rw [if_pos hy, ih]
    simp only [List.getElem?_cons_succ, List.take_succ_cons, List.drop_succ_cons]
    split <;> simp
abbrev Srt (l : List Rat) : Prop := l.Pairwise (· < ·)
theorem mem_insQ {x z : Rat} : ∀ {l : List Rat}, z ∈ insQ x l ↔ z = x ∨ z ∈ l
  | [] => by simp [insQ]
  | y :: ys => by
    unfold insQ
    split
    · rw [List.mem_cons, mem_insQ]; simp; grind
    · split
      · rename_i h; subst h; simp
      · simp
theorem srt_insQ {x : Rat} : ∀ {l : List Rat}, Srt l → Srt (insQ x l)
  | [], _ => by simp [insQ, Srt]
  | y :: ys, h => by
    obtain ⟨h1, h2⟩ := List.pairwise_cons.mp h
    unfold insQ
    split
    · rename_i hy
      refine List.pairwise_cons.mpr ⟨fun z hz => ?_, srt_insQ h2⟩
      rcases mem_insQ.mp hz with rfl | hz
      · exact hy
      · exact h1 z hz
    · split
      · exact h
      · rename_i a b
        refine List.pairwise_cons.mpr ⟨fun z hz => ?_, h⟩
        rcases List.mem_cons.mp hz with rfl | hz
        · grind
        · have := h1 z hz; grind
theorem insQ_law (x : Rat) : ∀ {l : List Rat}, Srt l → insQ x l = if x ∈ l then l else l.take (l.filter fun y => decide (y < x)).length ++ [x] ++ l.drop (l.filter fun y => decide (y < x)).length
  | [], _ => by simp [insQ]
  | y :: ys, h => by
    obtain ⟨h1, h2⟩ := List.pairwise_cons.mp h
    have ih := insQ_law x h2
    unfold insQ
    by_cases hy : y < x
    · rw [if_pos hy, ih]
      have hne : ¬ x = y := by grind
      rw [List.filter_cons_of_pos (by simpa using hy)]
      simp only [List.length_cons, List.take_succ_cons, List.drop_succ_cons, List.mem_cons, hne, false_or]
      split <;> simp
    · rw [if_neg hy]
      by_cases e : y = x
      · simp [e]
      · have hall : ∀ z ∈ y :: ys, ¬ z < x := fun z hz => by
          rcases List.mem_cons.mp hz with rfl | hz
          · exact hy
          · have := h1 z hz; grind
        have hf : (y :: ys).filter (fun y => decide (y < x)) = [] := List.filter_eq_nil_iff.mpr fun z hz => by simpa using hall z hz
        have hx : x ∉ y :: ys := fun hx => by
          rcases List.mem_cons.mp hx with rfl | hx
          · exact e rfl
          · have := h1 x hx; grind
        rw [if_neg e, if_neg hx, hf]; simp
def ordQ (xs : List Rat) : List Rat := xs.foldl (fun acc x => insQ x acc) []
def Ld.cuts (l : Ld) : List Rat := if l.pt then [l.lo] else [l.lo, l.hi]
def cuts (L : Rat) (ss : List Rat) (ls : List Ld) : List Rat := [0, L] ++ ss ++ (ls.map Ld.cuts).flatten
theorem cuts_len (ls : List Ld) : ((ls.map Ld.cuts).flatten).length ≤ 2 * ls.length := by
  induction ls with
  | nil => simp
  | cons l ls ih =>
    simp only [List.map_cons, List.flatten_cons, List.length_append, List.length_cons]
    have : l.cuts.length ≤ 2 := by unfold Ld.cuts; split <;> simp
    omega
theorem insQ_len (x : Rat) : ∀ l : List Rat, (insQ x l).length ≤ l.length + 1
  | [] => by simp [insQ]
  | y :: ys => by have := insQ_len x ys; unfold insQ; split <;> (try split) <;> simp <;> omega
theorem fold_len (xs : List Rat) : ∀ acc : List Rat, (xs.foldl (fun acc x => insQ x acc) acc).length ≤ acc.length + xs.length := by
  induction xs with
  | nil => intro acc; simp
  | cons x xs ih => intro acc; have := ih (insQ x acc); have := insQ_len x acc; simp only [List.foldl_cons, List.length_cons]; omega
theorem fold_mem {z : Rat} (xs : List Rat) : ∀ acc : List Rat, z ∈ xs.foldl (fun acc x => insQ x acc) acc ↔ z ∈ acc ∨ z ∈ xs := by
  induction xs with
  | nil => intro acc; simp
  | cons x xs ih => intro acc; rw [List.foldl_cons, ih, mem_insQ]; simp; grind
theorem fold_srt (xs : List Rat) : ∀ acc : List Rat, Srt acc → Srt (xs.foldl (fun acc x => insQ x acc) acc) := by
  induction xs with
  | nil => intro acc h; exact h
  | cons x xs ih => intro acc h; exact ih _ (srt_insQ h)
theorem ord_srt (xs : List Rat) : Srt (ordQ xs) := fold_srt xs [] List.Pairwise.nil
theorem ord_mem {z : Rat} {xs : List Rat} : z ∈ ordQ xs ↔ z ∈ xs := by unfold ordQ; rw [fold_mem]; simp
/-! ### places_in -/
theorem cut_1_2 (a b c : D) : cutD [a, b, c] (some 1) (some 2) = [b] := by simp [cutD, HT.sIx]
theorem cut_1_3 (a b c d : D) : cutD [a, b, c, d] (some 1) (some 3) = [b, c] := by simp [cutD, HT.sIx]
theorem cut_1 (a : D) (xs : List D) (h : (a :: xs).length < 2 ^ 30) : cutD (a :: xs) (some 1) none = xs := by
  unfold cutD HT.sIx
  simp at h ⊢
@[simp] theorem fSl_eq (fe : FE) (fl fh : FO) (env : DL.Env) (Q : D → Prop) : fSl fe fl fh env Q = fe env fun x => fl env fun l => fh env fun h => match x with | .list xs => Q (.list (cutD xs l h)) | .tuple xs => Q (.tuple (cutD xs l h)) | _ => False := id rfl
@[simp] theorem fPart_eq (f : FE) (env : DL.Env) (R : Option Int → Prop) : fPart f env R = f env fun x => match x with | .int i => R (some i) | _ => False := id rfl
@[simp] theorem fNoPart_eq (env : DL.Env) (R : Option Int → Prop) : fNoPart env R = R none := id rfl
@[simp] theorem nOf_eq (f : FE) (env : DL.Env) (R : List D → Prop) : nOf f env R = f env fun x => match x with | .list xs => R xs | _ => False := id rfl
@[simp] theorem sFrz_eq (i : Nat) (f : FS) (E : DEnds) (env : DL.Env) : sFrz i f E env = f E (frzE i env) := id rfl
section
variable {n : Nat} {ss : List Rat} {ls : List Ld} {L : Rat} {Q : D → Prop}
structure CutB (n : Nat) (L : Rat) (ss : List Rat) (ls : List Ld) : Prop where
  hb : ∀ l ∈ ls, l.B n
  hs : ∀ s ∈ ss, sz s ≤ n
  hL : sz L ≤ n
  hn : n < 500
  h1 : 1 ≤ n
  l1 : ss.length < 1000
  l2 : ls.length < 1000
theorem CutB.mem (b : CutB n L ss ls) {z : Rat} (h : z ∈ cuts L ss ls) : sz z ≤ n := by
  unfold cuts at h
  rw [List.mem_append, List.mem_append] at h
  rcases h with (h | h) | h
  · simp at h
    rcases h with rfl | rfl
    · rw [sz_0]; exact b.h1
    · exact b.hL
  · exact b.hs z h
  · obtain ⟨c, hc, hz⟩ := List.mem_flatten.mp h
    obtain ⟨l, hl, rfl⟩ := List.mem_map.mp hc
    have hB := b.hb l hl
    unfold Ld.cuts at hz
    split at hz
    · simp at hz; subst hz; exact hB.lo
    · simp at hz
      rcases hz with rfl | rfl
      · exact hB.lo
      · exact hB.hi
theorem CutB.len (b : CutB n L ss ls) : (cuts L ss ls).length < 3100 := by
  have := cuts_len ls; have := b.l1; have := b.l2
  unfold cuts; simp only [List.length_append, List.length_cons, List.length_nil]; omega
theorem w_places (b : CutB n L ss ls) (h : Q (.list ((ordQ (cuts L ss ls)).map fr))) : W_places_in [.d (fr L), .d (.list (ss.map fr)), .d (.list (ls.map ld))] Q := by
  have hlen := b.len
  have e0 : PyData.tuple [.int 0, .int 1] = fr 0 := rfl
  simp [W_places_in, B_places_in]
  refine ⟨by have := b.l1; show 2 + ss.length ≤ 16777216; omega, ?_⟩
  refine loopL_mem ls (fun r e => ∃ (xs : List Rat) (s1 : Slot), e = [.d (fr L), .d (.list (ss.map fr)), .d (.list (ls.map ld)), .own (xs.map fr), s1, .un, .un, .un] ∧ xs ++ (r.map Ld.cuts).flatten = cuts L ss ls) ?_ ?_ _ ⟨[0, L] ++ ss, .un, by simp [e0], rfl⟩
  · rintro e ⟨xs, s0, rfl, hx⟩
    simp at hx
    subst hx
    simp [frzE]
    refine loopL_mem (cuts L ss ls) (fun r e => ∃ (acc : List Rat) (s1 s2 : Slot), e = [.d (fr L), .d (.list (ss.map fr)), .d (.list (ls.map ld)), .d (.list ((cuts L ss ls).map fr)), s0, .own (acc.map fr), s1, s2] ∧ (∀ a ∈ acc, sz a ≤ n) ∧ acc.length + r.length ≤ 3100 ∧ r.foldl (fun acc x => insQ x acc) acc = ordQ (cuts L ss ls)) ?_ ?_ _ ⟨[], .un, .un, rfl, by simp, by simp; omega, rfl⟩
    · rintro e ⟨acc, s1, s2, rfl, _, _, hx⟩
      simp at hx
      subst hx
      simpa [frzE] using h
    · rintro x r e nx hx hnx ⟨acc, s1, s2, rfl, ha, hl, hf⟩
      have hxn := b.mem hx
      have hn := b.hn
      simp at hl
      simp [sWhile]
      refine ⟨fun m e => ∃ k : Nat, e = [.d (fr L), .d (.list (ss.map fr)), .d (.list (ls.map ld)), .d (.list ((cuts L ss ls).map fr)), s0, .own (acc.map fr), .d (fr x), .d (.int k)] ∧ k ≤ acc.length ∧ m = acc.length - k ∧ ∀ i y, i < k → acc[i]? = some y → y < x, ⟨acc.length, 0, rfl, by omega, by omega, fun i y hi => by omega⟩, ?_⟩
      rintro m e ⟨k, rfl, hk, rfl, hlt⟩
      have hsz : acc.length < sizeLine := by show _ < 16777216; omega
      have stay : (∀ y, acc[k]? = some y → ¬ y < x) → nx [.d (fr L), .d (.list (ss.map fr)), .d (.list (ls.map ld)), .d (.list ((cuts L ss ls).map fr)), s0, .own ((if acc[k]? = some x then acc else acc.take k ++ [x] ++ acc.drop k).map fr), .d (fr x), .d (.int k)] := fun h2 => by
        rw [← insQ_at x acc k hk hlt h2]
        refine hnx _ ⟨insQ x acc, _, _, rfl, fun a h => ?_, ?_, hf⟩
        · rcases mem_insQ.mp h with rfl | h
          · exact hxn
          · exact ha a h
        · have := insQ_len x acc; omega
      by_cases hk2 : k < acc.length
      · obtain ⟨y, hy⟩ : ∃ y, acc[k]? = some y := ⟨acc[k], by simp [hk2]⟩
        have hg : (acc.map fr)[k]? = some (fr y) := by rw [List.getElem?_map, hy]; rfl
        have hyn : sz y ≤ n := ha y (List.mem_of_getElem? hy)
        have hk3 : (k : Int) < (acc.length : Int) := by omega
        have hk4 : ¬ (k : Int) = (acc.length : Int) := by omega
        simp [hk3, hk4, gIxL_n hg]
        refine w_less (by omega) ?_
        by_cases hyx : y < x
        · simp [hyx, need, truD]
          refine ⟨acc.length - (k + 1), by omega, k + 1, by simp, by omega, rfl, fun i z hi hz => ?_⟩
          rcases Nat.lt_or_ge i k with h | h
          · exact hlt i z h hz
          · have : i = k := by omega
            subst this
            rw [hy] at hz
            cases hz
            exact hyx
        · simp [hyx, need, truD, eqD_fr]
          have st := stay fun z hz => by rw [hy] at hz; cases hz; exact hyx
          by_cases e : y = x
          · subst e
            simp
            simpa [hy] using st
          · simp [e, sIns, mutS]
            refine ⟨by omega, hsz, ?_⟩
            simpa [hy, e, List.map_take, List.map_drop] using st
      · have hk2 : k = acc.length := by omega
        subst hk2
        simp [sIns, mutS]
        have st := stay (by simp)
        have e1 : List.take acc.length (acc.map fr) = acc.map fr := List.take_of_length_le (by simp)
        have e2 : List.drop acc.length (acc.map fr) = [] := List.drop_of_length_le (by simp)
        exact ⟨by omega, hsz, by simpa [e1, e2] using st⟩
  · rintro l r e nx hl hnx ⟨xs, s1, rfl, hx⟩
    have hc : xs.length + l.cuts.length ≤ sizeLine := by
      have e1 := congrArg List.length hx
      simp only [List.map_cons, List.flatten_cons, List.length_append] at e1
      show _ ≤ 16777216; omega
    have fin : ∀ s1 : Slot, nx [.d (fr L), .d (.list (ss.map fr)), .d (.list (ls.map ld)), .own ((xs ++ l.cuts).map fr), s1, .un, .un, .un] := fun s1 => hnx _ ⟨xs ++ l.cuts, s1, rfl, by simpa using hx⟩
    obtain ⟨pt, lo, hi, f⟩ := l
    cases pt
    · simp [ld, sExt, mutS, cut_1_3]
      simp [Ld.cuts] at fin hc
      exact ⟨hc, fin _⟩
    · simp [ld, sExt, mutS, cut_1_2]
      simp [Ld.cuts] at fin hc
      exact ⟨hc, fin _⟩
end
/-! ### pieces -/
structure V3 where
  a : Rat
  b : Rat
  c : Rat
def v3 (t : V3) : D := .list [fr t.a, fr t.b, fr t.c]
def V3.add (s t : V3) : V3 := ⟨s.a + t.a, s.b + t.b, s.c + t.c⟩
def V3.zero : V3 := ⟨0, 0, 0⟩
structure V3.B (k : Nat) (t : V3) : Prop where
  a : sz t.a ≤ k
  b : sz t.b ≤ k
  c : sz t.c ≤ k
theorem V3.B.add {s t : V3} {j k : Nat} (h1 : s.B j) (h2 : t.B k) : (s.add t).B (j + k + 1) :=
  ⟨by have := sz_add s.a t.a; have := h1.a; have := h2.a; show sz (s.a + t.a) ≤ _; omega, by have := sz_add s.b t.b; have := h1.b; have := h2.b; show sz (s.b + t.b) ≤ _; omega, by have := sz_add s.c t.c; have := h1.c; have := h2.c; show sz (s.c + t.c) ≤ _; omega⟩
theorem V3.B.mono {s : V3} {j k : Nat} (h : s.B j) (hk : j ≤ k) : s.B k := ⟨by have := h.a; omega, by have := h.b; omega, by have := h.c; omega⟩
theorem V3.B.zero : V3.zero.B 1 := ⟨Nat.le_refl _, Nat.le_refl _, Nat.le_refl _⟩
def mo (f p : Rat) : V3 := ⟨0 - f * p, f, 0⟩
theorem mo_B {f p : Rat} {j k : Nat} (h1 : sz f ≤ j) (h2 : sz p ≤ k) : (mo f p).B (j + k + 2) :=
  ⟨by have := sz_sub 0 (f * p); have := sz_mul f p; rw [sz_0] at *; show sz (0 - f * p) ≤ _; omega, by show sz f ≤ _; omega, by show sz 0 ≤ _; rw [sz_0]; omega⟩
def sm (l : Ld) (a : Rat) : V3 := if a < l.lo then V3.zero else if a < l.hi then ⟨0 - 1/2 * l.f * (l.lo * l.lo), l.f * l.lo, 0 - 1/2 * l.f⟩ else mo (0 - l.w) l.m
def lm (l : Ld) (a : Rat) : V3 := if l.pt then (if a < l.lo then V3.zero else mo (0 - l.f) l.lo) else sm l a
theorem lm_B {l : Ld} {n : Nat} (h : l.B n) (a : Rat) : (lm l a).B (5 * n + 8) := by
  have := h.lo; have := h.hi; have := h.f
  have hw := h.w
  have hm := h.m
  have z1 := sz_0
  unfold lm
  split
  · split
    · exact V3.B.zero.mono (by omega)
    · have := sz_sub 0 l.f
      exact (mo_B (j := n + 2) (k := n) (by omega) (by omega)).mono (by omega)
  · unfold sm
    split
    · exact V3.B.zero.mono (by omega)
    · split
      · have h1 := sz_mul (1/2) l.f
        have h2 := sz_half
        have h3 := sz_mul (1/2 * l.f) (l.lo * l.lo)
        have h4 := sz_mul l.lo l.lo
        have h5 := sz_sub 0 (1/2 * l.f * (l.lo * l.lo))
        have h6 := sz_sub 0 (1/2 * l.f)
        have h7 := sz_mul l.f l.lo
        exact ⟨by show sz (0 - 1/2 * l.f * (l.lo * l.lo)) ≤ _; omega, by show sz (l.f * l.lo) ≤ _; omega, by show sz (0 - 1/2 * l.f) ≤ _; omega⟩
      · have := sz_sub 0 l.w
        exact (mo_B (j := 3 * n + 3) (k := 2 * n + 3) (by omega) (by omega)).mono (by omega)
section
variable {n m j k : Nat} {Q : D → Prop}
theorem w_moment_of {f p : Rat} (h : sz f + sz p < 8000) (q : Q (v3 (mo f p))) : W_moment_of [.d (fr f), .d (fr p)] Q := by
  simp [W_moment_of, B_moment_of]
  refine w_times (by omega) ?_
  have := sz_mul f p; have := sz_0
  rw [fr_0]
  exact w_minus (by omega) q
theorem rep3 : (List.replicate (3 : Int).toNat [PyData.tuple [.int 0, .int 1]]).flatten = [fr 0, fr 0, fr 0] := rfl
theorem w_spread {l : Ld} {a : Rat} (hl : l.pt = false) (hb : l.B n) (ha : sz a ≤ n) (hn : n < 500) (q : Q (v3 (sm l a))) : W_spread_moment [.d (ld l), .d (fr a)] Q := by
  obtain ⟨pt, lo, hi, f⟩ := l
  cases hl
  have := hb.lo; have := hb.hi; have := hb.f
  have hw := hb.w
  have hm := hb.m
  have z1 := sz_0
  simp only [] at *
  unfold sm at q
  simp [W_spread_moment, B_spread_moment, ld]
  refine w_less (by omega) ?_
  by_cases h1 : a < lo
  · simp [h1] at q
    simp [h1, need, truD, gMul]
    exact ⟨by decide, q⟩
  · simp [h1] at q
    simp [h1, need, truD]
    refine w_less (by omega) ?_
    by_cases h2 : a < hi
    · simp [h2] at q
      simp [h2]
      rw [fr_half, fr_0]
      have g1 := sz_mul (1/2) f
      have g2 := sz_half
      have g3 := sz_mul (1/2 * f) (lo * lo)
      have g4 := sz_mul lo lo
      refine w_times (by omega) (w_times (by omega) (w_times (by omega) (w_minus (by omega) (w_times (by omega) (w_minus (by omega) ?_)))))
      exact q
    · simp [h2] at q
      simp [h2]
      refine w_whole (l := ⟨false, lo, hi, f⟩) hb (by omega) ?_
      simp
      rw [fr_0]
      have := sz_sub 0 (Ld.w ⟨false, lo, hi, f⟩)
      exact w_minus (by omega) (w_moment_of (by omega) q)
def sup (ss ps : List Rat) (a : Rat) (t : V3) : V3 := (ss.zip ps).foldl (fun t p => if a < p.1 then t else t.add (mo p.2 p.1)) t
def pcs (ss ps : List Rat) (ls : List Ld) (a : Rat) : V3 := ls.foldl (fun t l => t.add (lm l a)) (sup ss ps a V3.zero)
theorem zadd {s t : V3} {env : DL.Env} {R : List D → Prop} (he : env.length = 15) (hs : s.B j) (ht : t.B k) (hjk : j + k < 9000) (q : R [fr (s.add t).a, fr (s.add t).b, fr (s.add t).c]) :
    compL (gTp (gsCons (gNm 13) (gsCons (gNm 14) gsNil))) fYes (fCall W_plus (faD (fVar 13) (faD (fVar 14) faNil))) env (zipD [fr s.a, fr s.b, fr s.c] [fr t.a, fr t.b, fr t.c]) [] R := by
  have h13 : ∀ x y : D, ((env.set 13 (.d x)).set 14 (.d y))[13]? = some (.d x) := fun x y => by rw [List.getElem?_set_ne (by omega), List.getElem?_set_self (by omega)]
  have h14 : ∀ x y : D, ((env.set 13 (.d x)).set 14 (.d y))[14]? = some (.d y) := fun x y => by rw [List.getElem?_set_self (by rw [List.length_set]; omega)]
  have := hs.a; have := hs.b; have := hs.c; have := ht.a; have := ht.b; have := ht.c
  simp [zipD, compL, fVar_of (h13 _ _), fVar_of (h14 _ _)]
  refine w_plus (by omega) ⟨by decide, w_plus (by omega) ⟨by decide, w_plus (by omega) ⟨by decide, q⟩⟩⟩
structure PcB (n m j : Nat) (L : Rat) (ss ps : List Rat) (ls : List Ld) : Prop where
  cut : CutB n L ss ls
  hj : ∀ l ∈ ls, l.B j
  hp : ∀ p ∈ ps, sz p ≤ m
  he : ss.length = ps.length
  l1 : ss.length * (n + m + 3) + ls.length * (5 * j + 9) < 6000
  hm : m < 3000
theorem sup_B {a : Rat} : ∀ (zs : List (Rat × Rat)) (t : V3) (k : Nat), t.B k → (∀ p ∈ zs, sz p.1 ≤ n ∧ sz p.2 ≤ m) → (zs.foldl (fun t p => if a < p.1 then t else t.add (mo p.2 p.1)) t).B (k + zs.length * (n + m + 3))
  | [], t, k, h, _ => by simpa using h
  | p :: zs, t, k, h, hz => by
    rw [List.foldl_cons]
    have h1 := hz p (by simp)
    have h2 : (if a < p.1 then t else t.add (mo p.2 p.1)).B (k + (n + m + 3)) := by
      split
      · exact h.mono (by omega)
      · exact (h.add (mo_B (j := m) (k := n) h1.2 h1.1)).mono (by omega)
    refine (sup_B zs _ _ h2 fun q hq => hz q (by simp [hq])).mono ?_
    simp only [List.length_cons, Nat.add_mul]; omega
theorem lms_B {a : Rat} : ∀ (ls : List Ld) (t : V3) (k : Nat), t.B k → (∀ l ∈ ls, l.B j) → (ls.foldl (fun t l => t.add (lm l a)) t).B (k + ls.length * (5 * j + 9))
  | [], t, k, h, _ => by simpa using h
  | l :: ls, t, k, h, hz => by
    rw [List.foldl_cons]
    have h1 := lm_B (hz l (by simp)) a
    refine (lms_B ls _ _ (h.add h1) fun q hq => hz q (by simp [hq])).mono ?_
    simp only [List.length_cons, Nat.add_mul]; omega
theorem PcB.zip {L : Rat} {ss ps : List Rat} {ls : List Ld} (b : PcB n m j L ss ps ls) : ∀ p ∈ ss.zip ps, sz p.1 ≤ n ∧ sz p.2 ≤ m := fun p hp => ⟨b.cut.hs _ (List.of_mem_zip hp).1, b.hp _ (List.of_mem_zip hp).2⟩
theorem PcB.B {L : Rat} {ss ps : List Rat} {ls : List Ld} (b : PcB n m j L ss ps ls) (a : Rat) : (pcs ss ps ls a).B (ss.length * (n + m + 3) + ls.length * (5 * j + 9) + 1) := by
  have h1 := sup_B (a := a) (ss.zip ps) V3.zero 1 V3.B.zero b.zip
  have h2 := lms_B (a := a) ls _ _ h1 b.hj
  refine h2.mono ?_
  have := b.he
  rw [List.length_zip, show min ss.length ps.length = ss.length by omega]; omega
theorem cut_tail (xs : List D) (h : xs.length < 2 ^ 30) : cutD xs (some 1) none = xs.tail := by
  cases xs with
  | nil => rfl
  | cons x xs => exact cut_1 x xs h
theorem w_pieces {L : Rat} {ss ps : List Rat} {ls : List Ld} (b : PcB n m j L ss ps ls)
    (q : Q (.list (((ordQ (cuts L ss ls)).zip (ordQ (cuts L ss ls)).tail).map fun p => .tuple [fr p.1, fr p.2, v3 (pcs ss ps ls p.1)]))) :
    W_pieces [.d (fr L), .d (.list (ss.map fr)), .d (.list (ls.map ld)), .d (.list (ps.map fr))] Q := by
  have hl := fold_len (cuts L ss ls) []
  have hc := b.cut.len
  have hn := b.cut.hn
  have hm := b.hm
  have hpl : ∀ x ∈ ordQ (cuts L ss ls), sz x ≤ n := fun x hx => b.cut.mem (ord_mem.mp hx)
  have hol : (ordQ (cuts L ss ls)).length ≤ 3100 := by unfold ordQ; simp at hl; omega
  simp [W_pieces, B_pieces]
  refine w_places b.cut ?_
  generalize ordQ (cuts L ss ls) = pl at hpl hol q ⊢
  simp [cut_tail _ (show (pl.map fr).length < 2 ^ 30 by rw [List.length_map]; omega)]
  rw [← List.map_tail, zipD_map]
  refine loopL_mem (pl.zip pl.tail) (fun r e => ∃ (xs : List (Rat × Rat)) (s6 s7 s8 s9 s10 s11 s12 : Slot), e = [.d (fr L), .d (.list (ss.map fr)), .d (.list (ls.map ld)), .d (.list (ps.map fr)), .d (.list (pl.map fr)), .own (xs.map fun p => .tuple [fr p.1, fr p.2, v3 (pcs ss ps ls p.1)]), s6, s7, s8, s9, s10, s11, s12, .un, .un] ∧ xs ++ r = pl.zip pl.tail) ?_ ?_ _ ⟨[], .un, .un, .un, .un, .un, .un, .un, rfl, rfl⟩
  · rintro e ⟨xs, s6, s7, s8, s9, s10, s11, s12, rfl, hx⟩
    simp at hx
    subst hx
    simpa [frzE] using q
  · rintro ⟨fi, la⟩ r e nx hmem hnx ⟨xs, s6, s7, s8, s9, s10, s11, s12, rfl, hx⟩
    have hxl : xs.length < sizeLine := by
      have := congrArg List.length hx
      simp at this
      show _ < 16777216; omega
    have hfi : sz fi ≤ n := hpl _ (List.of_mem_zip hmem).1
    have he := b.he
    simp [gMul, rep3]
    refine ⟨by decide, he, ?_⟩
    rw [zipD_map]
    have e3 : [fr 0, fr 0, fr 0] = [fr V3.zero.a, fr V3.zero.b, fr V3.zero.c] := rfl
    have l1 := b.l1
    refine loopL_mem (ss.zip ps) (fun r e => ∃ (t : V3) (k : Nat) (s9 s10 s11 s12 : Slot), e = [.d (fr L), .d (.list (ss.map fr)), .d (.list (ls.map ld)), .d (.list (ps.map fr)), .d (.list (pl.map fr)), .own (xs.map fun p => .tuple [fr p.1, fr p.2, v3 (pcs ss ps ls p.1)]), .d (fr fi), .d (fr la), .d (v3 t), s9, s10, s11, s12, .un, .un] ∧
      t.B k ∧ k + r.length * (n + m + 3) ≤ ss.length * (n + m + 3) + 1 ∧ r.foldl (fun t p => if fi < p.1 then t else t.add (mo p.2 p.1)) t = sup ss ps fi V3.zero) ?_ ?_ _ ⟨V3.zero, 1, s9, s10, s11, s12, rfl, V3.B.zero, by rw [List.length_zip, show min ss.length ps.length = ss.length by omega]; omega, rfl⟩
    · rintro e ⟨t, k, s9, s10, s11, s12, rfl, hB, hk, hf⟩
      simp at hf hk
      subst hf
      simp
      refine loopL_mem ls (fun r e => ∃ (t : V3) (k : Nat) (s11 s12 : Slot), e = [.d (fr L), .d (.list (ss.map fr)), .d (.list (ls.map ld)), .d (.list (ps.map fr)), .d (.list (pl.map fr)), .own (xs.map fun p => .tuple [fr p.1, fr p.2, v3 (pcs ss ps ls p.1)]), .d (fr fi), .d (fr la), .d (v3 t), s9, s10, s11, s12, .un, .un] ∧
        t.B k ∧ k + r.length * (5 * j + 9) ≤ ss.length * (n + m + 3) + 1 + ls.length * (5 * j + 9) ∧ r.foldl (fun t l => t.add (lm l fi)) t = pcs ss ps ls fi) ?_ ?_ _ ⟨_, k, s11, s12, rfl, hB, by omega, rfl⟩
      · rintro e ⟨t, k, s11, s12, rfl, hB, hk, hf⟩
        simp at hf
        subst hf
        simp [sApp, mutS]
        exact ⟨hxl, hnx _ ⟨xs ++ [(fi, la)], .d (fr fi), .d (fr la), .d (v3 (pcs ss ps ls fi)), s9, s10, s11, s12, by simp, by simpa using hx⟩⟩
      · rintro l r e nx hl hnx2 ⟨t, k, s11, s12, rfl, hB, hk, hf⟩
        simp only [List.length_cons, Nat.add_mul] at hk
        have hlB := b.cut.hb l hl
        have hlm := lm_B (b.hj l hl) fi
        have fin : ∀ s11 s12 : Slot, nx [.d (fr L), .d (.list (ss.map fr)), .d (.list (ls.map ld)), .d (.list (ps.map fr)), .d (.list (pl.map fr)), .own (xs.map fun p => .tuple [fr p.1, fr p.2, v3 (pcs ss ps ls p.1)]), .d (fr fi), .d (fr la), .d (v3 (t.add (lm l fi))), s9, s10, s11, s12, .un, .un] := fun s11 s12 => hnx2 _ ⟨_, _, s11, s12, rfl, hB.add hlm, by omega, hf⟩
        have add : ∀ (env : DL.Env) (R : List D → Prop), env.length = 15 → R [fr (t.add (lm l fi)).a, fr (t.add (lm l fi)).b, fr (t.add (lm l fi)).c] → compL (gTp (gsCons (gNm 13) (gsCons (gNm 14) gsNil))) fYes (fCall W_plus (faD (fVar 13) (faD (fVar 14) faNil))) env (zipD [fr t.a, fr t.b, fr t.c] [fr (lm l fi).a, fr (lm l fi).b, fr (lm l fi).c]) [] R := fun env R h1 h2 => zadd h1 hB hlm (by omega) h2
        have hlo := hlB.lo; have hhi := hlB.hi; have hff := hlB.f
        obtain ⟨pt, lo, hi, f⟩ := l
        cases pt
        · simp [ld]
          refine w_spread (l := ⟨false, lo, hi, f⟩) rfl hlB hfi hn ?_
          simp [v3]
          refine add _ _ rfl ?_
          exact fin _ _
        · simp [ld]
          simp only [] at hlo hff
          refine w_less (by omega) ?_
          have z0 := sz_0
          by_cases h1 : fi < lo
          · simp [h1, need, truD, gMul, rep3]
            refine ⟨by decide, ?_⟩
            have e4 : lm ⟨true, lo, hi, f⟩ fi = V3.zero := by simp [lm, h1]
            simp [v3]
            rw [e4] at add fin
            refine add _ _ rfl ?_
            exact fin _ _
          · simp [h1, need, truD]
            have e4 : lm ⟨true, lo, hi, f⟩ fi = mo (0 - f) lo := by simp [lm, h1]
            rw [e4] at add fin
            rw [fr_0]
            have := sz_sub 0 f
            refine w_minus (by omega) (w_moment_of (by omega) ?_)
            simp [v3]
            refine add _ _ rfl ?_
            exact fin _ _
    · rintro ⟨pl1, pu⟩ r e nx hpm hnx2 ⟨t, k, s9, s10, s11, s12, rfl, hB, hk, hf⟩
      simp only [List.length_cons, Nat.add_mul] at hk
      have hp := b.zip _ hpm
      simp only [] at hp
      simp
      refine w_less (by omega) ?_
      rw [List.foldl_cons] at hf
      simp only [] at hf
      by_cases h1 : fi < pl1
      · simp [h1, need, truD]
        rw [if_pos h1] at hf
        exact hnx2 _ ⟨t, k, _, _, _, _, rfl, hB, by omega, hf⟩
      · simp [h1, need, truD]
        rw [if_neg h1] at hf
        refine w_moment_of (by omega) ?_
        simp [v3]
        refine zadd rfl hB (mo_B (j := m) (k := n) hp.2 hp.1) (by omega) ?_
        exact hnx2 _ ⟨_, _, _, _, _, _, rfl, hB.add (mo_B (j := m) (k := n) hp.2 hp.1), by omega, hf⟩
end
end TW

set_option Elab.async false
set_option linter.all false
set_option maxRecDepth 100000
set_option maxHeartbeats 400000
set_option exponentiation.threshold 10000
/-! KPoly: polynomials: values, products, integrals. -/
namespace TW
open PySem DL
def pv (x : Rat) (p : List Rat) : Rat := p.foldr (fun c a => a * x + c) 0
structure PvB (s : Nat) (x : Rat) (p : List Rat) : Prop where
  hp : ∀ c ∈ p, sz c ≤ s
  l : p.length * (sz x + s + 1) < 8500
theorem sz_pv {s : Nat} {x : Rat} : ∀ {p : List Rat}, (∀ c ∈ p, sz c ≤ s) → sz (pv x p) ≤ p.length * (sz x + s + 1) + 1
  | [], _ => by show sz 0 ≤ _; rw [sz_0]; omega
  | c :: p, h => by
    have h1 := sz_pv (x := x) (p := p) fun d hd => h d (by simp [hd])
    have h2 := h c (by simp)
    have h3 := sz_add (pv x p * x) c
    have h4 := sz_mul (pv x p) x
    show sz (pv x p * x + c) ≤ _
    simp only [List.length_cons, Nat.add_mul] at *
    omega
@[simp] theorem fRev_eq (fe : FE) (env : DL.Env) (Q : D → Prop) : fRev fe env Q = fe env fun x => match x with | .list xs => Q (.list xs.reverse) | _ => False := id rfl
theorem w_value_at {s : Nat} {x : Rat} {p : List Rat} {Q : D → Prop} (b : PvB s x p) (h : Q (fr (pv x p))) : W_value_at [.d (.list (p.map fr)), .d (fr x)] Q := by
  simp [W_value_at, B_value_at]
  rw [← List.map_reverse]
  refine loopL_mem p.reverse (fun r e => ∃ (d : List Rat) (s3 : Slot), e = [.d (.list (p.map fr)), .d (fr x), .d (fr (pv x d)), s3] ∧ r.reverse ++ d = p) ?_ ?_ _ ⟨[], .un, rfl, by simp⟩
  · rintro e ⟨d, s3, rfl, hd⟩
    simp at hd
    subst hd
    exact h
  · rintro c r e nx hc hnx ⟨d, s3, rfl, hd⟩
    have hdm : ∀ c ∈ d, sz c ≤ s := fun c hc => b.hp c (by rw [← hd]; simp [hc])
    have hcm : sz c ≤ s := b.hp c (by simpa using hc)
    have h1 := sz_pv (x := x) hdm
    have hl : (d.length + 1) * (sz x + s + 1) ≤ p.length * (sz x + s + 1) := Nat.mul_le_mul_right _ (by rw [← hd]; simp)
    rw [Nat.add_mul] at hl
    have := b.l
    simp
    refine w_times (by omega) (w_plus ?_ (hnx _ ⟨c :: d, _, rfl, by simpa using hd⟩))
    have := sz_mul (pv x d) x
    omega
/-! ### products -/
def addAt (l : List Rat) (k : Nat) (v : Rat) : List Rat := l.set k (l.getD k 0 + v)
theorem addAt_len (l : List Rat) (k : Nat) (v : Rat) : (addAt l k v).length = l.length := by simp [addAt]
theorem pv_set {x v : Rat} : ∀ {l : List Rat} {k : Nat}, k < l.length → pv x (l.set k (l.getD k 0 + v)) = pv x l + v * x ^ k
  | [], _, h => by simp at h
  | c :: l, 0, _ => by simp [pv]; grind
  | c :: l, k + 1, h => by
    have ih := pv_set (x := x) (v := v) (l := l) (k := k) (by simpa using h)
    simp only [List.set_cons_succ, List.getD_cons_succ]
    show pv x (l.set k (l.getD k 0 + v)) * x + c = pv x l * x + c + v * x ^ (k + 1)
    rw [ih, Rat.pow_succ]; grind
theorem addAt_B {l : List Rat} {k : Nat} {v : Rat} {m j : Nat} (h : ∀ c ∈ l, sz c ≤ m) (hm : 1 ≤ m) (hv : sz v ≤ j) : ∀ c ∈ addAt l k v, sz c ≤ m + j + 1 := by
  intro c hc
  unfold addAt at hc
  rcases List.mem_or_eq_of_mem_set hc with hc | rfl
  · have := h c hc; omega
  · have h1 := sz_add (l.getD k 0) v
    have h2 : sz (l.getD k 0) ≤ m := by
      rw [List.getD_eq_getElem?_getD]
      cases e : l[k]? with
      | none => simpa [sz_0] using hm
      | some y => exact h y (List.mem_of_getElem? e)
    omega
def rowM (a : Rat) (i : Nat) (ys : List (Rat × Nat)) (l : List Rat) : List Rat := ys.foldl (fun l y => addAt l (i + y.2) (a * y.1)) l
def prodF (xs ys : List (Rat × Nat)) (l : List Rat) : List Rat := xs.foldl (fun l p => rowM p.1 p.2 ys l) l
def prodQ (p q : List Rat) : List Rat := prodF p.zipIdx q.zipIdx (List.replicate (p.length + q.length - 1) 0)
theorem rowM_len (a : Rat) (i : Nat) : ∀ (ys : List (Rat × Nat)) (l : List Rat), (rowM a i ys l).length = l.length
  | [], _ => rfl
  | y :: ys, l => by
    show (rowM a i ys (addAt l (i + y.2) (a * y.1))).length = _
    rw [rowM_len a i ys, addAt_len]
theorem prodF_len : ∀ (xs ys : List (Rat × Nat)) (l : List Rat), (prodF xs ys l).length = l.length
  | [], _, _ => rfl
  | x :: xs, ys, l => by
    show (prodF xs ys (rowM x.1 x.2 ys l)).length = _
    rw [prodF_len xs, rowM_len]
theorem prodQ_len (p q : List Rat) : (prodQ p q).length = p.length + q.length - 1 := by unfold prodQ; rw [prodF_len]; simp
/-- the value of what stands from a place on -/
theorem pv_row {x a : Rat} {i : Nat} : ∀ (q : List Rat) (j : Nat) (l : List Rat), i + j + q.length ≤ l.length → pv x (rowM a i (q.zipIdx j) l) = pv x l + a * x ^ (i + j) * pv x q
  | [], _, l, _ => by show pv x l = pv x l + a * _ * 0; grind
  | c :: q, j, l, h => by
    simp only [List.length_cons] at h
    have h1 := pv_set (x := x) (v := a * c) (l := l) (k := i + j) (by omega)
    have ih := pv_row (x := x) (a := a) (i := i) q (j + 1) (addAt l (i + j) (a * c)) (by rw [addAt_len]; omega)
    show pv x (rowM a i (q.zipIdx (j + 1)) (addAt l (i + j) (a * c))) = pv x l + a * x ^ (i + j) * (pv x q * x + c)
    rw [ih]
    unfold addAt
    rw [h1, show i + (j + 1) = (i + j) + 1 by omega, Rat.pow_succ]
    grind
theorem pv_prodF {x : Rat} (q : List Rat) : ∀ (p : List Rat) (i : Nat) (l : List Rat), i + p.length + q.length ≤ l.length + 1 → pv x (prodF (p.zipIdx i) q.zipIdx l) = pv x l + x ^ i * pv x p * pv x q
  | [], i, l, _ => by show pv x l = pv x l + x ^ i * 0 * _; grind
  | c :: p, i, l, h => by
    simp only [List.length_cons] at h
    have h1 := pv_row (x := x) (a := c) (i := i) q 0 l (by omega)
    have ih := pv_prodF (x := x) q p (i + 1) (rowM c i q.zipIdx l) (by rw [rowM_len]; omega)
    show pv x (prodF (p.zipIdx (i + 1)) q.zipIdx (rowM c i q.zipIdx l)) = pv x l + x ^ i * (pv x p * x + c) * pv x q
    rw [ih, h1, Rat.pow_succ]
    grind
theorem pv_zero (x : Rat) : ∀ n : Nat, pv x (List.replicate n 0) = 0
  | 0 => rfl
  | n + 1 => by
    rw [List.replicate_succ]
    show pv x (List.replicate n 0) * x + 0 = 0
    rw [pv_zero x n]; grind
theorem pv_prod (x : Rat) (p q : List Rat) (hp : p ≠ []) : pv x (prodQ p q) = pv x p * pv x q := by
  unfold prodQ
  have : 0 < p.length := List.length_pos_iff.mpr hp
  rw [pv_prodF q p 0 _ (by simp; omega), pv_zero, Rat.pow_zero]; grind
theorem enumD_map : ∀ (p : List Rat) (i : Nat), enumD i (p.map fr) = (p.zipIdx i).map fun y => .tuple [.int (y.2 : Int), fr y.1]
  | [], _ => rfl
  | c :: p, i => by
    simp only [List.map_cons, enumD, List.zipIdx_cons]
    rw [enumD_map p (i + 1)]
@[simp] theorem iEnum_eq (f : FE) (env : DL.Env) (R : List D → Prop) : iEnum f env R = f env fun x => match x with | .list xs => R (enumD 0 xs) | _ => False := id rfl
theorem gItem_of {i k : Nat} {fi : FE} {x : D} {env : DL.Env} {R : DL.Env → Prop} {xs : List D} (h1 : env[i]? = some (.own xs)) (h2 : fi env = fun K => K (.int k)) (hk : k < xs.length) (q : R (env.set i (.own (xs.set k x)))) : gItem i fi x env R := by
  unfold gItem mutS
  rw [h1]
  show fi env _
  rw [h2]
  show need (L2.ixN xs.length (k : Int)) _
  have e : L2.ixN xs.length (k : Int) = some k := by
    unfold L2.ixN
    rw [if_pos (by omega), if_pos (by omega)]; simp
  rw [e]
  exact q
structure ProdB (s : Nat) (p q : List Rat) : Prop where
  hp : ∀ c ∈ p, sz c ≤ s
  hq : ∀ c ∈ q, sz c ≤ s
  l : p.length * q.length * (2 * s + 1) < 4000
  l1 : p.length < 1000
  l2 : q.length < 1000
  l3 : p ≠ []
  hs : s < 2000
theorem w_product {s : Nat} {p q : List Rat} {Q : D → Prop} (b : ProdB s p q) (h : Q (.list ((prodQ p q).map fr))) : W_product [.d (.list (p.map fr)), .d (.list (q.map fr))] Q := by
  have l1 := b.l1; have l2 := b.l2; have hs := b.hs
  have l0 : 0 < p.length := List.length_pos_iff.mpr b.l3
  have e0 : ((p.length : Int) + (q.length : Int) - 1).toNat = p.length + q.length - 1 := by omega
  have er : List.replicate (p.length + q.length - 1) (PyData.tuple [.int 0, .int 1]) = (List.replicate (p.length + q.length - 1) (0 : Rat)).map fr := by rw [List.map_replicate]; rfl
  simp [W_product, B_product, gMul, e0]
  refine ⟨by omega, by omega, by show _ ≤ 16777217; omega, ?_⟩
  rw [er, enumD_map]
  refine loopL_mem p.zipIdx (fun r e => ∃ (l : List Rat) (t : Nat) (s3 s4 s5 s6 : Slot), e = [.d (.list (p.map fr)), .d (.list (q.map fr)), .own (l.map fr), s3, s4, s5, s6] ∧ l.length = p.length + q.length - 1 ∧ 1 ≤ t ∧ (∀ c ∈ l, sz c ≤ t) ∧ t + r.length * q.length * (2 * s + 1) ≤ p.length * q.length * (2 * s + 1) + 1 ∧ prodF r q.zipIdx l = prodQ p q) ?_ ?_ _
    ⟨List.replicate (p.length + q.length - 1) 0, 1, .un, .un, .un, .un, by simp, by simp, Nat.le_refl _, fun c hc => by rw [List.eq_of_mem_replicate hc, sz_0]; exact Nat.le_refl _, by rw [List.length_zipIdx]; omega, rfl⟩
  · rintro e ⟨l, t, s3, s4, s5, s6, rfl, hl, h1, hB, ht, hf⟩
    have hf : l = prodQ p q := hf
    subst hf
    simpa [frzE] using h
  · rintro ⟨a, i⟩ r e nx hm hnx ⟨l, t, s3, s4, s5, s6, rfl, hl, h1, hB, ht, hf⟩
    obtain ⟨hi, ha⟩ := List.mem_zipIdx' hm
    have has : sz a ≤ s := b.hp a (by rw [ha]; exact List.getElem_mem _)
    simp only [List.length_cons, Nat.add_mul, Nat.one_mul] at ht
    simp
    rw [enumD_map]
    refine loopL_mem q.zipIdx (fun r2 e => ∃ (l : List Rat) (t : Nat) (s5 s6 : Slot), e = [.d (.list (p.map fr)), .d (.list (q.map fr)), .own (l.map fr), .d (.int i), .d (fr a), s5, s6] ∧ l.length = p.length + q.length - 1 ∧ 1 ≤ t ∧ (∀ c ∈ l, sz c ≤ t) ∧ t + r2.length * (2 * s + 1) + r.length * q.length * (2 * s + 1) ≤ p.length * q.length * (2 * s + 1) + 1 ∧ prodF r q.zipIdx (rowM a i r2 l) = prodQ p q) ?_ ?_ _
      ⟨l, t, s5, s6, rfl, hl, h1, hB, by rw [List.length_zipIdx]; omega, hf⟩
    · rintro e ⟨l, t, s5, s6, rfl, hl, h1, hB, ht, hf⟩
      exact hnx _ ⟨l, t, _, _, _, _, rfl, hl, h1, hB, by simpa using ht, hf⟩
    · rintro ⟨c, j⟩ r2 e nx2 hm2 hnx2 ⟨l, t, s5, s6, rfl, hl, h1, hB, ht, hf⟩
      obtain ⟨hj, hc⟩ := List.mem_zipIdx' hm2
      have hcs : sz c ≤ s := b.hq c (by rw [hc]; exact List.getElem_mem _)
      simp only [List.length_cons, Nat.add_mul, Nat.one_mul] at ht
      have hk : i + j < l.length := by omega
      have hg : (l.map fr)[i + j]? = some (fr (l.getD (i + j) 0)) := by
        rw [List.getElem?_map, List.getD_eq_getElem?_getD, List.getElem?_eq_getElem hk]; rfl
      have hcast : (i : Int) + (j : Int) = ((i + j : Nat) : Int) := by omega
      have hll : sz (l[i + j]?.getD 0) ≤ t := by
        rw [List.getElem?_eq_getElem hk]; exact hB _ (List.getElem_mem _)
      have hv := sz_mul a c
      have hg2 : ∀ K : D → Prop, gIx (.list (l.map fr)) (.int ((i : Int) + (j : Int))) K = K (fr (l[i + j]?.getD 0)) := fun K => by rw [hcast, ← List.getD_eq_getElem?_getD]; exact gIxL_n hg
      simp [hg2]
      have := b.l
      refine w_times (by omega) (w_plus (by omega) ?_)
      refine gItem_of (xs := l.map fr) (k := i + j) rfl (by funext K; simp only [fBin_eq, fVarT_S, fVarT_0, gAdd_i, hcast]) (by simpa using hk) ?_
      have fin := hnx2 [.d (.list (p.map fr)), .d (.list (q.map fr)), .own ((addAt l (i + j) (a * c)).map fr), .d (.int i), .d (fr a), .d (.int j), .d (fr c)] ⟨addAt l (i + j) (a * c), t + (2 * s) + 1, _, _, rfl, by rw [addAt_len]; exact hl, by omega, addAt_B hB h1 (by omega), by omega, hf⟩
      simpa [addAt, List.map_set] using fin
/-! ### integrals -/
def antiF (p : List Rat) (i : Nat) : List Rat := (p.zipIdx i).map fun y => Rat.divInt y.1.num ((y.1.den : Int) * ((y.2 : Int) + 1))
def anti (p : List Rat) : List Rat := 0 :: antiF p 0
theorem divInt_den_mul (c : Rat) (k : Int) (hk : k ≠ 0) : Rat.divInt c.num ((c.den : Int) * k) = c / (k : Rat) := by
  rw [Rat.divInt_eq_div, Rat.intCast_mul]
  have h1 : (c.den : Rat) ≠ 0 := by have := c.den_pos; rw [Ne, Rat.natCast_eq_zero_iff]; omega
  have h2 : ((k : Int) : Rat) ≠ 0 := by rw [Ne, Rat.intCast_eq_zero_iff]; exact hk
  have h3 : c = (c.num : Rat) / (c.den : Rat) := by
    conv => lhs; rw [← Rat.num_divInt_den c, Rat.divInt_eq_div]
    rfl
  have h4 : (((c.den : Int)) : Rat) = (c.den : Rat) := rfl
  rw [h4]
  conv => rhs; rw [h3]
  grind
structure IntB (s : Nat) (x y : Rat) (p : List Rat) : Prop where
  hp : ∀ c ∈ p, sz c ≤ s
  hx : sz x ≤ s
  hy : sz y ≤ s
  l : (p.length + 1) * (2 * s + 11) < 2000
  l1 : p.length < 1000
theorem anti_B {s : Nat} {x y : Rat} {p : List Rat} (b : IntB s x y p) : ∀ c ∈ anti p, sz c ≤ s + 10 := by
  intro c hc
  rcases List.mem_cons.mp hc with rfl | hc
  · rw [sz_0]; omega
  · obtain ⟨⟨d, i⟩, hm, rfl⟩ := List.mem_map.mp hc
    obtain ⟨hi, hd⟩ := List.mem_zipIdx' hm
    have hds := b.hp d (by rw [hd]; exact List.getElem_mem _)
    have := b.l1
    have h1 := d.den_pos
    show sz (Rat.divInt d.num ((d.den : Int) * ((i : Int) + 1))) ≤ _
    refine sz_divInt (Int.mul_ne_zero (by omega) (by omega)) (pow_up (num_lt d) (by omega)) (pow_up (natAbs_mul_lt (den_abs d) (m := 10) (by omega)) (by omega))
theorem w_integral {s : Nat} {x y : Rat} {p : List Rat} {Q : D → Prop} (b : IntB s x y p) (h : Q (fr (pv y (anti p) - pv x (anti p)))) : W_integral [.d (.list (p.map fr)), .d (fr x), .d (fr y)] Q := by
  have hl1 := b.l1; have hl := b.l; have hx := b.hx; have hy := b.hy
  have hB := anti_B b
  have len : (anti p).length = p.length + 1 := by simp [anti, antiF]
  simp [W_integral, B_integral]
  rw [enumD_map]
  refine compL_map (φ := fun y => fr (Rat.divInt y.1.num ((y.1.den : Int) * ((y.2 : Int) + 1)))) (by rw [List.length_zipIdx]; show _ ≤ 16777216; omega) (fun ⟨c, i⟩ hm R r => ?_) ?_
  · obtain ⟨hi, hd⟩ := List.mem_zipIdx' hm
    have hds := b.hp c (by rw [hd]; exact List.getElem_mem _)
    have h1 := c.den_pos
    have hle := Nat.mul_le_mul_right (2 * s + 11) (show 1 ≤ p.length + 1 by omega)
    simp [fr]
    refine ⟨.inr (.inr (by omega)), ?_⟩
    exact w_frac (k := s + 10) (Int.mul_ne_zero (by omega) (by omega)) (pow_up (num_lt c) (by omega)) (pow_up (natAbs_mul_lt (den_abs c) (m := 10) (by omega)) (by omega)) (by omega) r
  · have hle := Nat.mul_le_mul_right (2 * s + 11) (show 1 ≤ p.length + 1 by omega)
    rw [show List.map (fun y : Rat × Nat => fr (Rat.divInt y.1.num ((y.1.den : Int) * ((y.2 : Int) + 1)))) p.zipIdx = (antiF p 0).map fr by simp [antiF]]
    refine ⟨by simp [antiF]; show _ ≤ 16777216; omega, ?_⟩
    rw [show PyData.tuple [.int 0, .int 1] :: (antiF p 0).map fr = (anti p).map fr by simp [anti, fr_0]]
    have m1 : (anti p).length * (sz y + (s + 10) + 1) ≤ (p.length + 1) * (2 * s + 11) := by rw [len]; exact Nat.mul_le_mul_left _ (by omega)
    have m2 : (anti p).length * (sz x + (s + 10) + 1) ≤ (p.length + 1) * (2 * s + 11) := by rw [len]; exact Nat.mul_le_mul_left _ (by omega)
    refine w_value_at (s := s + 10) ⟨hB, by omega⟩ (w_value_at (s := s + 10) ⟨hB, by omega⟩ (w_minus ?_ h))
    have g1 := sz_pv (x := y) hB
    have g2 := sz_pv (x := x) hB
    omega
end TW

set_option Elab.async false
set_option linter.all false
set_option maxRecDepth 100000
set_option maxHeartbeats 400000
/-! KSame: _law_same tells whether two data are the same. -/
namespace TW
open PySem DL
def okS : Nat → D → Prop
  | _, .none => True
  | _, .bool _ => True
  | _, .int _ => True
  | _, .str s => PyData.canLay0 (.str s) = true
  | n + 1, .list xs => xs.length < 2 ^ 60 ∧ ∀ x ∈ xs, okS n x
  | n + 1, .tuple xs => xs.length < 2 ^ 60 ∧ ∀ x ∈ xs, okS n x
  | _, _ => False
@[simp] theorem truD_bool (b : Bool) : truD (.bool b) = some b := rfl
@[simp] theorem need_some {α : Type} (x : α) (Q : α → Prop) : need (some x) Q = Q x := id rfl
theorem okD_str {s : Str} (h : PyData.canLay0 (.str s) = true) : okD (.str s) = true := okD_of (n := 0) (okN_str h)
@[simp] theorem eqD_bool (a b : Bool) : eqD (.bool a) (.bool b) = (a == b) := id rfl
theorem eqD_str (a b : Str) : eqD (.str a) (.str b) = (a == b) := rfl
section
variable {env : DL.Env} {Q : D → Prop}
@[simp] theorem fAndV_eq (f g : FE) : fAndV f g env Q = f env fun x => match x with | .bool b => if b = true then g env Q else Q (.bool false) | _ => False := id rfl
@[simp] theorem fNotV_eq (f : FE) : fNotV f env Q = f env fun x => match x with | .bool b => Q (.bool (!b)) | _ => False := id rfl
end
theorem same_seq {w : W} {xs ys : List D} {Q : D → Prop} {e0 e1 : Slot} (cx cy : D) (hl : xs.length = ys.length)
    (gx : ∀ (k : Nat) (x : D) (K : D → Prop), xs[k]? = some x → K x → gIx cx (.int k) K) (gy : ∀ (k : Nat) (x : D) (K : D → Prop), ys[k]? = some x → K x → gIx cy (.int k) K)
    (hw : ∀ (k : Nat) (x y : D) (K : D → Prop), xs[k]? = some x → ys[k]? = some y → (x = y → K (.bool true)) → (x ≠ y → K (.bool false)) → w [.d x, .d y] K)
    (h1 : xs = ys → Q (.bool true)) (h2 : xs ≠ ys → Q (.bool false)) (bk ct : DL.Env → Prop) :
    loopL (gNm 3) (sIf (fNot (fTru (fCall w (faD (fBin gIx (fVarT 0) (fVarT 3)) (faD (fBin gIx (fVarT 1) (fVarT 3)) faNil))))) (sRet (fC (.bool false))) sNext) { nx := sRet (fC (.bool true)) { nx := fun _ => Q .none, rt := Q, bk := fun _ => False, ct := fun _ => False }, rt := Q, bk := bk, ct := ct }
      (rngD 0 (ys.length : Int)) [.d cx, .d cy, e0, e1] := by
  rw [rngD_nat]
  refine loopL_inv (enc := fun k : Nat => PyData.int (k : Int)) (fun r e => ∃ (k : Nat) (s3 : Slot), e = [.d cx, .d cy, e0, s3] ∧ r = (List.range ys.length).drop k ∧ ∀ i < k, xs[i]? = ys[i]?) ?_ ?_ _ _ ⟨0, e1, rfl, by simp, fun i hi => by omega⟩
  · rintro e ⟨k, s3, rfl, hr, hp⟩
    have hk : ys.length ≤ k := by simpa using hr.symm
    refine h1 (List.ext_getElem? fun i => ?_)
    by_cases hi : i < k
    · exact hp i hi
    · rw [List.getElem?_eq_none (by omega), List.getElem?_eq_none (by omega)]
  · rintro a r e nx hnx ⟨k, s3, rfl, hr, hp⟩
    have hk : k < ys.length := by
      rcases Nat.lt_or_ge k ys.length with h | h
      · exact h
      · rw [List.drop_of_length_le (by simpa using h)] at hr; cases hr
    rw [List.drop_eq_getElem_cons (by simpa using hk)] at hr
    simp at hr
    obtain ⟨rfl, hr⟩ := hr
    have ey : ys[a]? = some ys[a] := List.getElem?_eq_getElem hk
    have ex : xs[a]? = some (xs[a]'(by omega)) := List.getElem?_eq_getElem (by omega)
    simp
    refine gx a _ _ ex (gy a _ _ ey (hw a _ _ _ ex ey (fun h => ?_) (fun h => ?_)))
    · simp
      exact hnx _ ⟨a + 1, _, rfl, hr, fun i hi => by
        rcases Nat.lt_or_ge i a with q | q
        · exact hp i q
        · have : i = a := by omega
          subst this
          rw [ex, ey, h]⟩
    · simp
      refine h2 fun h' => h ?_
      subst h'
      rfl
theorem w_same_n : ∀ (n : Nat) (x y : D) (m : Nat) (Q : D → Prop), okS n y → okS m x → (x = y → Q (.bool true)) → (x ≠ y → Q (.bool false)) → R__law_same_k29 (n + 1) [.d x, .d y] Q := by
  intro n
  induction n with
  | zero =>
    intro x y m Q hy hx h1 h2
    unfold R__law_same_k29
    cases y with
    | list _ => exact hy.elim
    | tuple _ => exact hy.elim
    | dict _ => exact hy.elim
    | none => cases x <;> simp [B__law_same_k29, isNone] <;> first | exact h1 rfl | exact h2 (by simp)
    | bool b =>
      cases b <;> cases x <;> simp [B__law_same_k29, isNone, isBool] <;> first | exact h2 (by simp) | skip
      · rename_i c; cases c <;> (try simp) <;> first | exact h1 rfl | exact h2 (by simp)
      · rename_i c; cases c <;> (try simp) <;> first | exact h1 rfl | exact h2 (by simp)
    | int j =>
      cases x <;> simp [B__law_same_k29, isNone, isBool, isIntD, isBoolD] <;> first | exact h2 (by simp) | skip
      rename_i i
      by_cases e : i = j
      · simp [e]; exact h1 (by rw [e])
      · simp [e]; exact h2 (by simp [e])
    | str j =>
      cases x <;> simp [B__law_same_k29, isNone, isBool, isIntD, isBoolD, isStrD] <;> first | exact h2 (by simp) | skip
      rename_i i
      refine ⟨okD_str (by cases m <;> exact hx), okD_str hy, ?_⟩
      rw [eqD_str]
      by_cases e : i = j
      · subst e; rw [beq_self_eq_true]; exact h1 rfl
      · rw [show (i == j) = false by simpa using e]; exact h2 (by simp [e])
  | succ n ih =>
    intro x y m Q hy hx h1 h2
    unfold R__law_same_k29
    cases y with
    | dict _ => exact hy.elim
    | none => cases x <;> simp [B__law_same_k29, isNone] <;> first | exact h1 rfl | exact h2 (by simp)
    | bool b =>
      cases b <;> cases x <;> simp [B__law_same_k29, isNone, isBool] <;> first | exact h2 (by simp) | skip
      · rename_i c; cases c <;> (try simp) <;> first | exact h1 rfl | exact h2 (by simp)
      · rename_i c; cases c <;> (try simp) <;> first | exact h1 rfl | exact h2 (by simp)
    | int j =>
      cases x <;> simp [B__law_same_k29, isNone, isBool, isIntD, isBoolD] <;> first | exact h2 (by simp) | skip
      rename_i i
      by_cases e : i = j
      · simp [e]; exact h1 (by rw [e])
      · simp [e]; exact h2 (by simp [e])
    | str j =>
      cases x <;> simp [B__law_same_k29, isNone, isBool, isIntD, isBoolD, isStrD] <;> first | exact h2 (by simp) | skip
      rename_i i
      refine ⟨okD_str (by cases m <;> exact hx), okD_str hy, ?_⟩
      rw [eqD_str]
      by_cases e : i = j
      · subst e; rw [beq_self_eq_true]; exact h1 rfl
      · rw [show (i == j) = false by simpa using e]; exact h2 (by simp [e])
    | list ys =>
      obtain ⟨hyl, hya⟩ := hy
      cases x <;> simp [B__law_same_k29, isNone, isBool, isIntD, isBoolD, isStrD, isDictD, isTupD, isListD] <;> first | exact h2 (by simp) | skip
      rename_i xs
      cases m with
      | zero => exact hx.elim
      | succ m =>
        obtain ⟨_, hxa⟩ := hx
        by_cases e : xs.length = ys.length
        · rw [if_pos (by omega)]
          refine ⟨by omega, ?_⟩
          exact same_seq (.list xs) (.list ys) e (fun k x K h q => by rw [gIxL_n h]; exact q) (fun k x K h q => by rw [gIxL_n h]; exact q)
            (fun k x y K gx gy q1 q2 => ih x y m K (hya y (List.mem_of_getElem? gy)) (hxa x (List.mem_of_getElem? gx)) q1 q2)
            (fun h => h1 (by rw [h])) (fun h => h2 (by simpa using h)) _ _
        · rw [if_neg (by omega)]
          exact h2 (fun h => e (by cases h; rfl))
    | tuple ys =>
      obtain ⟨hyl, hya⟩ := hy
      cases x <;> simp [B__law_same_k29, isNone, isBool, isIntD, isBoolD, isStrD, isDictD, isTupD, isListD] <;> first | exact h2 (by simp) | skip
      rename_i xs
      cases m with
      | zero => exact hx.elim
      | succ m =>
        obtain ⟨_, hxa⟩ := hx
        by_cases e : xs.length = ys.length
        · rw [if_pos (by omega)]
          refine ⟨by omega, ?_⟩
          exact same_seq (.tuple xs) (.tuple ys) e (fun k x K h q => by rw [gIxT_n h]; exact q) (fun k x K h q => by rw [gIxT_n h]; exact q)
            (fun k x y K gx gy q1 q2 => ih x y m K (hya y (List.mem_of_getElem? gy)) (hxa x (List.mem_of_getElem? gx)) q1 q2)
            (fun h => h1 (by rw [h])) (fun h => h2 (by simpa using h)) _ _
        · rw [if_neg (by omega)]
          exact h2 (fun h => e (by cases h; rfl))
theorem okS_mono : ∀ {n m : Nat} {x : D}, okS n x → n ≤ m → okS m x := by
  intro n
  induction n with
  | zero => intro m x h _; cases m <;> cases x <;> first | exact h | exact h.elim
  | succ n ih =>
    intro m x h hm
    match m, hm with
    | m + 1, hm =>
      cases x <;> first | exact h | skip
      · exact ⟨h.1, fun y hy => ih (h.2 y hy) (by omega)⟩
      · exact ⟨h.1, fun y hy => ih (h.2 y hy) (by omega)⟩
theorem w_same {x y : D} {Q : D → Prop} (hx : okS 9 x) (hy : okS 9 y) (h1 : x = y → Q (.bool true)) (h2 : x ≠ y → Q (.bool false)) : W__law_same_k29 [.d x, .d y] Q := w_same_n 9 x y 9 Q hy hx h1 h2
theorem okS_fr (q : Rat) : okS 1 (fr q) := ⟨by show 2 < 2 ^ 60; decide, fun x hx => by simp at hx; rcases hx with rfl | rfl <;> trivial⟩
theorem w_same_fr {a b : Rat} {Q : D → Prop} (h : Q (.bool (decide (a = b)))) : W__law_same_k29 [.d (fr a), .d (fr b)] Q := by
  refine w_same (okS_mono (okS_fr a) (by decide)) (okS_mono (okS_fr b) (by decide)) (fun e => ?_) (fun e => ?_)
  · rw [decide_eq_true (fr_inj e)] at h; exact h
  · rw [decide_eq_false (fun q => e (by rw [q]))] at h; exact h
theorem w_same_bool {a b : Bool} {Q : D → Prop} (h : Q (.bool (a == b))) : W__law_same_k29 [.d (.bool a), .d (.bool b)] Q := by
  refine w_same trivial trivial (fun e => ?_) (fun e => ?_)
  · cases e; rw [beq_self_eq_true] at h; exact h
  · rw [show (a == b) = false by cases a <;> cases b <;> first | rfl | exact absurd rfl e] at h; exact h
end TW

set_option Elab.async false
set_option linter.all false
set_option maxRecDepth 100000
set_option maxHeartbeats 400000
set_option exponentiation.threshold 10000
/-! KLaw: what the laws draw, their breaks. -/
namespace TW
open PySem DL
theorem divInt_pos {p q : Int} (hq : 0 < q) (hp : 0 < p) : 0 < Rat.divInt p q := by
  rw [Rat.divInt_eq_div, Rat.lt_div_iff (by rw [← Rat.intCast_zero, Rat.intCast_lt_intCast]; exact hq), Rat.zero_mul, ← Rat.intCast_zero, Rat.intCast_lt_intCast]
  exact hp
theorem natAbs_lt_of {i : Int} {k : Nat} (h : -((2 ^ k : Nat) : Int) < i) (h2 : i < ((2 ^ k : Nat) : Int)) : i.natAbs < 2 ^ k := by omega
/-- a drawn fraction (a + draw(m)) / (b + draw(n)), b > 0 -/
theorem w_llength {Q : D → Prop} (h : ∀ L : Rat, 0 < L → sz L ≤ 5 → Q (fr L)) : W__law_length [.pool] Q := by
  simp [W__law_length, B__law_length]
  refine w_draw (by decide) (by decide) fun a ha => ?_
  simp
  refine w_draw (by decide) (by decide) fun b hb => ?_
  simp
  refine w_lratio (k := 5) (by omega) (by omega) (by omega) (by decide) (h _ (divInt_pos (by omega) (by omega)) (sz_divInt (by omega) (by omega) (by omega)))
/-- a drawn fraction (draw(m) - c) / (1 + draw(n)) -/
theorem w_rd {m c n : Int} {k : Nat} {Q : D → Prop} (hm : 0 < m) (hm2 : m - c ≤ 2 ^ k) (hm3 : m < 2 ^ 60) (hc : 0 ≤ c ∧ c < 2 ^ k) (hn : 0 < n) (hn2 : n < 2 ^ k) (hk : k ≤ 40) (h : ∀ f : Rat, sz f ≤ k → Q (fr f)) :
    W__law_draw [.pool, .d (.int m)] fun x => gSub x (.int c) fun x => W__law_draw [.pool, .d (.int n)] fun y => gAdd (.int 1) y fun z => W__law_ratio [.d x, .d z] Q := by
  have e : (((2 ^ k : Nat) : Int)) = (2 : Int) ^ k := by simp
  have hk2 : (2 : Int) ^ k ≤ 2 ^ 40 := by
    have := Nat.pow_le_pow_right (n := 2) (by decide) hk
    omega
  refine w_draw hm hm3 fun a ha => ?_
  rw [gSub_i]
  refine w_draw hn (by omega) fun b hb => ?_
  rw [gAdd_i]
  have b1 : ((a : Int) - c).natAbs < 2 ^ k := natAbs_lt_of (by omega) (by omega)
  have b2 : (1 + (b : Int)).natAbs < 2 ^ k := natAbs_lt_of (by omega) (by omega)
  exact w_lratio (k := k) (by omega) b1 b2 (by omega) (h _ (sz_divInt (by omega) b1 b2))
theorem part_eq (L : Rat) (d : Int) (k : Int) (hk : k ≠ 0) : Rat.divInt (L.num * d) ((L.den : Int) * k) = L * ((d : Rat) / (k : Rat)) := by
  have h1 : ((L.den : Int) : Rat) ≠ 0 := by have := L.den_pos; rw [Ne, Rat.intCast_eq_zero_iff]; omega
  have h2 : ((k : Int) : Rat) ≠ 0 := by rw [Ne, Rat.intCast_eq_zero_iff]; exact hk
  have h3 : L = (L.num : Rat) / ((L.den : Int) : Rat) := by
    conv => lhs; rw [← Rat.num_divInt_den L, Rat.divInt_eq_div]
  rw [Rat.divInt_eq_div, Rat.intCast_mul, Rat.intCast_mul]
  conv => rhs; rw [h3]
  grind
theorem w_lpart {L : Rat} {k : Nat} {Q : D → Prop} (hk : 0 < k) (hk2 : k < 8) (hL : 0 ≤ L) (hs : sz L < 100) (h : ∀ x : Rat, 0 ≤ x → x ≤ L → sz x ≤ sz L + 3 → Q (fr x)) : W__law_part [.pool, .d (fr L), .d (.int k)] Q := by
  simp [W__law_part, B__law_part, fr]
  refine w_draw (by omega) (by omega) fun d hd => ?_
  simp
  have hden := L.den_pos
  refine ⟨.inr (.inr (by omega)), .inr (.inr (by omega)), ?_⟩
  have b1 : (L.num * (d : Int)).natAbs < 2 ^ (sz L + 3) := natAbs_mul_lt (num_lt L) (by omega)
  have b2 : ((L.den : Int) * (k : Int)).natAbs < 2 ^ (sz L + 3) := natAbs_mul_lt (den_abs L) (by omega)
  have hne : (L.den : Int) * (k : Int) ≠ 0 := Int.mul_ne_zero (by omega) (by omega)
  refine w_lratio (k := sz L + 3) hne b1 b2 (by omega) ?_
  have hkr : (0 : Rat) < ((k : Int) : Rat) := by rw [← Rat.intCast_zero, Rat.intCast_lt_intCast]; omega
  have hdr : (0 : Rat) ≤ ((d : Int) : Rat) := by rw [← Rat.intCast_zero, Rat.intCast_le_intCast]; omega
  have hdk : ((d : Int) : Rat) ≤ ((k : Int) : Rat) := by rw [Rat.intCast_le_intCast]; omega
  have q0 : 0 ≤ ((d : Int) : Rat) / ((k : Int) : Rat) := by
    rw [Rat.div_def]; exact Rat.mul_nonneg hdr (Rat.le_of_lt (Rat.inv_pos.mpr hkr))
  have q1 : ((d : Int) : Rat) / ((k : Int) : Rat) ≤ 1 := by
    rcases Rat.le_iff_lt_or_eq.mp hdk with hlt | heq
    · exact Rat.le_of_lt ((Rat.div_lt_iff hkr).mpr (by rw [Rat.one_mul]; exact hlt))
    · rw [heq]; grind
  refine h _ ?_ ?_ (sz_divInt hne b1 b2)
  · rw [part_eq L d k (by omega)]; exact Rat.mul_nonneg hL q0
  · rw [part_eq L d k (by omega)]
    have := Rat.mul_le_mul_of_nonneg_left q1 hL
    rw [Rat.mul_one] at this; exact this
structure Ld.Ok (L : Rat) (l : Ld) : Prop where
  b : l.B 8
  lo0 : 0 ≤ l.lo
  loL : l.lo ≤ L
  hiL : l.hi ≤ L
  le : l.lo ≤ l.hi
  lt : l.pt = false → l.lo < l.hi
theorem w_lloads {L : Rat} {most : Nat} {Q : D → Prop} (hL : 0 ≤ L) (hs : sz L ≤ 5) (hm : most < 20) (h : ∀ ls : List Ld, ls.length ≤ most → (∀ l ∈ ls, l.Ok L) → Q (.list (ls.map ld))) : W__law_loads [.pool, .d (fr L), .d (.int most)] Q := by
  simp [W__law_loads, B__law_loads]
  refine w_draw (by omega) (by omega) fun t ht => ?_
  simp
  refine ⟨by omega, ?_⟩
  rw [rngD_nat]
  refine loopL_inv (enc := fun k : Nat => PyData.int (k : Int)) (fun r e => ∃ (ls : List Ld) (s4 s5 s6 s7 : Slot), e = [.pool, .d (fr L), .d (.int most), .own (ls.map ld), s4, s5, s6, s7] ∧ ls.length + r.length ≤ t ∧ ∀ l ∈ ls, l.Ok L) ?_ ?_ _ _ ⟨[], .un, .un, .un, .un, rfl, by simp, by simp⟩
  · rintro e ⟨ls, s4, s5, s6, s7, rfl, hl, hok⟩
    simp [frzE]
    exact h ls (by omega) hok
  · rintro k r e nx hnx ⟨ls, s4, s5, s6, s7, rfl, hl, hok⟩
    simp at hl
    have hsz : ls.length < sizeLine := by show _ < 16777216; omega
    have body : ∀ s4 : Slot, (sSeq (sAsg (fCall W__law_ratio (faD (fBin gSub (fCall W__law_draw (faPool 0 (faD (fC (.int 13)) faNil))) (fC (.int 4))) (faD (fBin gAdd (fC (.int 1)) (fCall W__law_draw (faPool 0 (faD (fC (.int 3)) faNil)))) faNil))) (gNm 5))
       (sSeq (sAsg (fCall W__law_part (faPool 0 (faD (fVar 1) (faD (fC (.int 6)) faNil)))) (gNm 6))
       (sSeq (sAsg (fCall W__law_part (faPool 0 (faD (fVar 1) (faD (fC (.int 6)) faNil)))) (gNm 7))
       (sIf (fOr (fB (fBin gEq (fCall W__law_draw (faPool 0 (faD (fC (.int 2)) faNil))) (fC (.int 0)))) (fB (fBin gEq (fVarT 6) (fVarT 7))))
       (sApp 3 (fTup (fsCons (fC (.str "point")) (fsCons (fVar 6) (fsCons (fVar 5) fsNil)))))
       (sIf (fTru (fCall W__law_less (faD (fVar 6) (faD (fVar 7) faNil))))
       (sApp 3 (fTup (fsCons (fC (.str "spread")) (fsCons (fVar 6) (fsCons (fVar 7) (fsCons (fVar 5) fsNil))))))
       (sApp 3 (fTup (fsCons (fC (.str "spread")) (fsCons (fVar 7) (fsCons (fVar 6) (fsCons (fVar 5) fsNil))))))))))) { nx := nx, rt := Q, bk := fun e => sFrz 3 (sRet (fVar 3)) { nx := fun _ => Q .none, rt := Q, bk := fun _ => False, ct := fun _ => False } e, ct := nx } [.pool, .d (fr L), .d (.int most), .own (ls.map ld), s4, s5, s6, s7] := fun s4 => by
      simp
      refine w_rd (k := 4) (by decide) (by decide) (by decide) (by decide) (by decide) (by decide) (by decide) fun f hf => ?_
      try simp
      refine w_lpart (k := 6) (by decide) (by decide) hL (by omega) fun x x0 xL xs => ?_
      try simp
      refine w_lpart (k := 6) (by decide) (by decide) hL (by omega) fun y y0 yL ys => ?_
      try simp
      have hx8 : sz x ≤ 8 := by omega
      have hy8 : sz y ≤ 8 := by omega
      have hf8 : sz f ≤ 8 := by omega
      refine w_draw (by decide) (by decide) fun g hg => ?_
      have fin : ∀ (l : Ld) (s4 : Slot), l.Ok L → nx [.pool, .d (fr L), .d (.int most), .own (ls.map ld ++ [ld l]), s4, .d (fr f), .d (fr x), .d (fr y)] := fun l s4 hl' => hnx _ ⟨ls ++ [l], _, _, _, _, by simp; exact ⟨rfl, rfl, rfl, rfl⟩, by simp; omega, fun m hm => by
        rcases List.mem_append.mp hm with hm | hm
        · exact hok m hm
        · have : m = l := by simpa using hm
          subst this; exact hl'⟩
      have pt : nx [.pool, .d (fr L), .d (.int most), .own (ls.map ld ++ [PyData.tuple [.str "point", fr x, fr f]]), s4, .d (fr f), .d (fr x), .d (fr y)] := fin ⟨true, x, x, f⟩ s4 ⟨⟨hx8, hx8, hf8⟩, x0, xL, xL, Rat.le_refl, fun h => by cases h⟩
      by_cases hg0 : g = 0
      · subst hg0
        simp [sApp, mutS]
        exact ⟨hsz, pt⟩
      · simp [hg0, sApp, mutS, eqD_fr]
        by_cases hxy : x = y
        · simp [hxy] at pt ⊢
          exact ⟨hsz, pt⟩
        · simp [hxy]
          refine w_lless (by omega) ?_
          by_cases hlt : x < y
          · simp [hlt]
            exact ⟨hsz, fin ⟨false, x, y, f⟩ s4 ⟨⟨hx8, hy8, hf8⟩, x0, xL, yL, Rat.le_of_lt hlt, fun _ => hlt⟩⟩
          · simp [hlt]
            have hgt : y < x := by grind
            exact ⟨hsz, fin ⟨false, y, x, f⟩ s4 ⟨⟨hy8, hx8, hf8⟩, y0, yL, xL, Rat.le_of_lt hgt, fun _ => hgt⟩⟩
    rw [gNm_eq, sSeq_eq]
    by_cases hk : ((k : Int) % 2 = 1)
    · simp [hk, -sSeq_eq]
      exact w_next (body _)
    · simp [hk, -sSeq_eq]
      exact body _
theorem w_lpick {xs : List D} {Q : D → Prop} (h0 : 0 < xs.length) (h1 : xs.length < 1000) (h : ∀ x ∈ xs, Q x) : W__law_pick [.pool, .d (.list xs)] Q := by
  simp [W__law_pick, B__law_pick]
  refine w_draw (by omega) (by omega) fun k hk => ?_
  have hk' : k < xs.length := by omega
  rw [gIxL_n (x := xs[k]) (List.getElem?_eq_getElem hk')]
  exact h _ (List.getElem_mem hk')
theorem okD_frs {xs : List Rat} : okD (.list (xs.map fr)) = true := okD_of (n := 2) (okN_list fun x hx => by
  obtain ⟨a, _, rfl⟩ := List.mem_map.mp hx
  exact okN_fr a)
theorem inD_fr (x : Rat) (xs : List Rat) : inD (fr x) (xs.map fr) = decide (x ∈ xs) := by
  induction xs with
  | nil => rfl
  | cons y ys ih =>
    show (eqD (fr y) (fr x) || inD (fr x) (ys.map fr)) = _
    rw [ih, eqD_fr, Bool.eq_iff_iff]
    simp only [Bool.or_eq_true, decide_eq_true_eq, List.mem_cons]
    constructor <;> rintro (h | h) <;> first | exact .inl h.symm | exact .inr h
@[simp] theorem gNotIn_l (x : D) (xs : List D) (Q : D → Prop) : gNotIn x (.list xs) Q = (okD x = true ∧ okD (.list xs) = true ∧ Q (.bool (!inD x xs))) := by cases x <;> rfl
theorem cut_take (xs : List D) (k : Nat) (h : xs.length < 2 ^ 30) (hk : k ≤ xs.length) : cutD xs none (some (k : Int)) = xs.take k := by
  unfold cutD
  rw [HT.sIx_none, HT.sIx_nat, List.drop_zero, Nat.sub_zero, Nat.min_eq_left hk]
theorem cut_drop (xs : List D) (k : Nat) (h : xs.length < 2 ^ 30) (hk : k ≤ xs.length) : cutD xs (some (k : Int)) none = xs.drop k := by
  unfold cutD
  rw [HT.sIx_none, HT.sIx_nat, Nat.min_eq_left hk]
  exact List.take_of_length_le (by rw [List.length_drop]; omega)
theorem w_breaks {n : Nat} {ss : List Rat} {ls : List Ld} {L : Rat} {Q : D → Prop} (b : CutB n L ss ls) (h : Q (.list ((ordQ (cuts L ss ls)).map fr))) : W__law_breaks [.d (fr L), .d (.list (ss.map fr)), .d (.list (ls.map ld))] Q := by
  have hlen := b.len
  have e0 : PyData.tuple [.int 0, .int 1] = fr 0 := rfl
  simp [W__law_breaks, B__law_breaks]
  refine ⟨by have := b.l1; show 2 + ss.length ≤ 16777216; omega, ?_⟩
  refine loopL_mem ls (fun r e => ∃ (xs : List Rat) (s4 : Slot), e = [.d (fr L), .d (.list (ss.map fr)), .d (.list (ls.map ld)), .own (xs.map fr), s4, .un, .un, .un, .un] ∧ xs ++ (r.map Ld.cuts).flatten = cuts L ss ls) ?_ ?_ _ ⟨[0, L] ++ ss, .un, by simp [e0], rfl⟩
  · rintro e ⟨xs, s4, rfl, hx⟩
    simp at hx
    subst hx
    simp [frzE]
    refine loopL_mem (cuts L ss ls) (fun r e => ∃ (acc : List Rat) (s6 s7 : Slot), e = [.d (fr L), .d (.list (ss.map fr)), .d (.list (ls.map ld)), .d (.list ((cuts L ss ls).map fr)), s4, .d (.list (acc.map fr)), s6, s7, .un] ∧ (∀ a ∈ acc, sz a ≤ n) ∧ Srt acc ∧ acc.length + r.length ≤ 3100 ∧ r.foldl (fun acc x => insQ x acc) acc = ordQ (cuts L ss ls)) ?_ ?_ _ ⟨[], .un, .un, rfl, by simp, List.Pairwise.nil, by simp; omega, rfl⟩
    · rintro e ⟨acc, s6, s7, rfl, _, _, _, hx⟩
      simp at hx
      subst hx
      simpa using h
    · rintro x r e nx hx hnx ⟨acc, s6, s7, rfl, ha, hsrt, hl, hf⟩
      have hxn := b.mem hx
      have hn := b.hn
      simp at hl
      have hsz : acc.length < sizeLine := by show _ < 16777216; omega
      simp
      refine compL_gen (p := fun y => decide (y < x)) (φ := fr) acc [] (by simp; omega) (fun y hy R S h1 h2 => ?_) ?_
      · have hyn := ha y hy
        simp
        refine w_lless (by omega) ?_
        by_cases hyx : y < x
        · simp [hyx]; exact h1 (by simpa using hyx)
        · simp [hyx]; exact h2 (by simpa using hyx)
      · have ins := insQ_law x hsrt
        have hfl : (acc.filter fun y => decide (y < x)).length ≤ acc.length := List.length_filter_le _ _
        have hil := insQ_len x acc
        have fin : ∀ s7 : Slot, nx [.d (fr L), .d (.list (ss.map fr)), .d (.list (ls.map ld)), .d (.list ((cuts L ss ls).map fr)), s4, .d (.list ((insQ x acc).map fr)), .d (fr x), s7, .un] := fun s7 => hnx _ ⟨insQ x acc, _, _, rfl, fun a h => by
          rcases mem_insQ.mp h with rfl | h
          · exact hxn
          · exact ha a h, srt_insQ hsrt, by omega, hf⟩
        simp [okD_frs, inD_fr]
        by_cases hm : x ∈ acc
        · rw [if_pos hm] at ins
          rw [ins] at fin
          simp [hm]
          exact fin _
        · rw [if_neg hm] at ins
          rw [ins] at fin
          have c1 := cut_take (acc.map fr) (acc.filter fun y => decide (y < x)).length (by simp; omega) (by simpa using hfl)
          have c2 := cut_drop (acc.map fr) (acc.filter fun y => decide (y < x)).length (by simp; omega) (by simpa using hfl)
          simp [hm, c1, c2]
          refine ⟨by have : min (acc.filter fun y => decide (y < x)).length acc.length + 1 ≤ 16777216 := by omega
                     exact this, by omega, ?_⟩
          simpa [List.map_take, List.map_drop] using fin (.d (.int ((acc.filter fun y => decide (y < x)).length : Nat)))
  · rintro l r e nx hl hnx ⟨xs, s4, rfl, hx⟩
    have hc : xs.length + l.cuts.length < sizeLine := by
      have e1 := congrArg List.length hx
      simp only [List.map_cons, List.flatten_cons, List.length_append] at e1
      show _ < 16777216; omega
    have fin : ∀ s4 : Slot, nx [.d (fr L), .d (.list (ss.map fr)), .d (.list (ls.map ld)), .own ((xs ++ l.cuts).map fr), s4, .un, .un, .un, .un] := fun s4 => hnx _ ⟨xs ++ l.cuts, s4, rfl, by simpa using hx⟩
    obtain ⟨pt, lo, hi, f⟩ := l
    cases pt
    · simp [ld, sApp, mutS]
      simp [Ld.cuts] at fin hc
      exact ⟨by omega, by omega, fin _⟩
    · simp [ld, sApp, mutS]
      simp [Ld.cuts] at fin hc
      exact ⟨by omega, fin _⟩
end TW

set_option Elab.async false
set_option linter.all false
set_option maxRecDepth 100000
set_option maxHeartbeats 400000
set_option exponentiation.threshold 10000
/-! KLoop: more on loops. -/
namespace TW
open PySem DL
section
variable {α β : Type} {g : FG} {ft : FT} {fe : FE} {fb : FS} {env : DL.Env} {enc : α → D}
theorem loopL_idx {E : DEnds} (as : List α) (J : Nat → DL.Env → Prop) (he : ∀ e, J as.length e → E.nx e)
    (hs : ∀ (k : Nat) (hk : k < as.length) (e : DL.Env) (nx : DL.Env → Prop), (∀ e, J (k + 1) e → nx e) → J k e → g (enc as[k]) e fun e1 => fb { nx := nx, rt := E.rt, bk := E.nx, ct := nx } e1) (env : DL.Env) (h : J 0 env) : loopL g fb E (as.map enc) env := by
  refine loopL_inv (enc := enc) (fun r e => ∃ k, r = as.drop k ∧ k ≤ as.length ∧ J k e) ?_ ?_ as env ⟨0, by simp, by omega, h⟩
  · rintro e ⟨k, hr, hk, hJ⟩
    have : as.length ≤ k := by simpa using hr.symm
    have : k = as.length := by omega
    subst this
    exact he e hJ
  · rintro a r e nx hnx ⟨k, hr, hk, hJ⟩
    have hk' : k < as.length := by
      rcases Nat.lt_or_ge k as.length with h | h
      · exact h
      · rw [List.drop_of_length_le h] at hr; cases hr
    rw [List.drop_eq_getElem_cons hk'] at hr
    cases hr
    exact hs k hk' e nx (fun e h => hnx e ⟨k + 1, rfl, by omega, h⟩) hJ
theorem loopL_range {E : DEnds} (n : Nat) (J : Nat → DL.Env → Prop) (he : ∀ e, J n e → E.nx e)
    (hs : ∀ (k : Nat) (hk : k < n) (e : DL.Env) (nx : DL.Env → Prop), (∀ e, J (k + 1) e → nx e) → J k e → g (.int (k : Int)) e fun e1 => fb { nx := nx, rt := E.rt, bk := E.nx, ct := nx } e1) (env : DL.Env) (h : J 0 env) : loopL g fb E (rngD 0 (n : Int)) env := by
  rw [rngD_nat]
  refine loopL_idx (enc := fun k : Nat => PyData.int (k : Int)) (List.range n) J (by simpa using he) (fun k hk e nx h1 h2 => ?_) env h
  have hk' : k < n := by simpa using hk
  have := hs k hk' e nx h1 h2
  simpa using this
/-- a comprehension whose items are any that P takes -/
theorem compL_any {P : β → Prop} {dec : β → D} {Q : List D → Prop} : ∀ (as : List α) (acc : List D), acc.length + as.length ≤ sizeLine →
    (∀ a ∈ as, ∀ R : D → Prop, (∀ b, P b → R (dec b)) → g (enc a) env fun e1 => fe e1 R) →
    (∀ bs : List β, bs.length = as.length → (∀ b ∈ bs, P b) → Q (acc ++ bs.map dec)) → compL g fYes fe env (as.map enc) acc Q
  | [], acc, _, _, q => by simpa [compL] using q [] rfl (by simp)
  | a :: as, acc, hl, h, q => by
    show g (enc a) env fun env1 => fYes env1 fun b => if b = true then fe env1 fun y => acc.length < sizeLine ∧ compL g fYes fe env (as.map enc) (acc ++ [y]) Q else compL g fYes fe env (as.map enc) acc Q
    have := h a (by simp) (fun y => acc.length < sizeLine ∧ compL g fYes fe env (as.map enc) (acc ++ [y]) Q) fun b hb => ⟨by simp at hl; omega, ?_⟩
    · simpa using this
    · refine compL_any as _ (by simp at hl ⊢; omega) (fun c hc => h c (by simp [hc])) fun bs hl hP => ?_
      simpa using q (b :: bs) (by simp [hl]) fun c hc => by
        rcases List.mem_cons.mp hc with rfl | hc
        · exact hb
        · exact hP c hc
theorem compL_anyR {P : β → Prop} {dec : β → D} {Q : List D → Prop} (n : Nat) (hn : n < 10000) (h : ∀ k < n, ∀ R : D → Prop, (∀ b, P b → R (dec b)) → g (.int (k : Int)) env fun e1 => fe e1 R)
    (q : ∀ bs : List β, bs.length = n → (∀ b ∈ bs, P b) → Q (bs.map dec)) : compL g fYes fe env (rngD 0 (n : Int)) [] Q := by
  rw [rngD_nat]
  refine compL_any (enc := fun k : Nat => PyData.int (k : Int)) (P := P) (dec := dec) (List.range n) [] (by simp; show _ ≤ 16777216; omega) (fun k hk R r => h k (by simpa using hk) R r) fun bs hl hP => ?_
  simpa using q bs (by simpa using hl) hP
end
theorem rngD_nat' (i : Int) (n : Nat) (h : i = n) : rngD 0 i = rngD 0 (n : Int) := by rw [h]
theorem prodF_B {s : Nat} : ∀ (xs ys : List (Rat × Nat)) (l : List Rat) (t : Nat), 1 ≤ t → (∀ c ∈ l, sz c ≤ t) → (∀ x ∈ xs, sz x.1 ≤ s) → (∀ y ∈ ys, sz y.1 ≤ s) → ∀ c ∈ prodF xs ys l, sz c ≤ t + xs.length * (ys.length * (2 * s + 1)) := by
  have row : ∀ (a : Rat) (i : Nat) (ys : List (Rat × Nat)) (l : List Rat) (t : Nat), sz a ≤ s → 1 ≤ t → (∀ c ∈ l, sz c ≤ t) → (∀ y ∈ ys, sz y.1 ≤ s) → ∀ c ∈ rowM a i ys l, sz c ≤ t + ys.length * (2 * s + 1) := by
    intro a i ys
    induction ys with
    | nil => intro l t _ _ h _ c hc; have := h c hc; simpa using this
    | cons y ys ih =>
      intro l t ha ht h hy c hc
      have h1 := hy y (by simp)
      have h2 := sz_mul a y.1
      have := ih (addAt l (i + y.2) (a * y.1)) (t + 2 * s + 1) ha (by omega) (addAt_B h ht (by omega)) (fun z hz => hy z (by simp [hz])) c hc
      simp only [List.length_cons, Nat.add_mul]; omega
  intro xs
  induction xs with
  | nil => intro ys l t _ h _ _ c hc; have := h c hc; simpa using this
  | cons x xs ih =>
    intro ys l t ht h hx hy c hc
    have h1 := row x.1 x.2 ys l t (hx x (by simp)) ht h hy
    have := ih ys (rowM x.1 x.2 ys l) _ (by omega) h1 (fun z hz => hx z (by simp [hz])) hy c hc
    simp only [List.length_cons, Nat.add_mul]; omega
theorem prodQ_B {s : Nat} {p q : List Rat} (hp : ∀ c ∈ p, sz c ≤ s) (hq : ∀ c ∈ q, sz c ≤ s) : ∀ c ∈ prodQ p q, sz c ≤ 1 + p.length * (q.length * (2 * s + 1)) := by
  intro c hc
  have zi : ∀ (r : List Rat), (∀ c ∈ r, sz c ≤ s) → ∀ x ∈ r.zipIdx, sz x.1 ≤ s := fun r hr x hx => by
    obtain ⟨hi, he⟩ := List.mem_zipIdx' hx
    rw [he]; exact hr _ (List.getElem_mem _)
  have := prodF_B p.zipIdx q.zipIdx _ 1 (Nat.le_refl _) (fun c hc => by rw [List.eq_of_mem_replicate hc, sz_0]; exact Nat.le_refl _) (zi p hp) (zi q hq) c hc
  simpa using this
end TW

set_option Elab.async false
set_option linter.all false
set_option maxRecDepth 100000
/-! SL29: printed by gen.py: the law of k29 over data. -/
namespace TW
open PySem DL
/- row 261 -/
def L29_0 : FS := (sIf (fNot (fTru (fCall W__law_same_k29 (faD (fCall W_value_at (faD (fBlt bList (fsCons (fVarT 17) fsNil)) (faD (fVar 15) faNil))) (faD (fVar 18) faNil)))))
 (sRet (fC (.bool false)))
 sNext)
/- row 260 -/
def L29_1 : FS := (sSeq (sApp 16 (fVar 18))
 L29_0)
/- row 257 -/
def L29_2 : FS := (sSeq (sFor (iLst (fVar 17)) (gNm 20)
 (sSeq (sAsg (fCall W__law_add (faD (fVar 18) (faD (fCall W__law_mul (faD (fVar 20) (faD (fVar 19) faNil))) faNil))) (gNm 18))
 (sAsg (fCall W__law_mul (faD (fVar 19) (faD (fVar 15) faNil))) (gNm 19))))
 L29_1)
/- row 256 -/
def L29_3 : FS := (sSeq (sAsg (fTup (fsCons (fC (.int 1)) (fsCons (fC (.int 1)) fsNil))) (gNm 19))
 L29_2)
/- row 255 -/
def L29_4 : FS := (sSeq (sAsg (fTup (fsCons (fC (.int 0)) (fsCons (fC (.int 1)) fsNil))) (gNm 18))
 L29_3)
/- row 273 -/
def L29_5 : FS := (sAsg (fCall W__law_add (faD (fVar 18) (faD (fCall W__law_mul (faD (fCall W__law_ratio (faD (fBin gIx (fBin gIx (fVarT 12) (fVarT 22)) (fC (.int 0))) (faD (fBin gMul (fBin gIx (fBin gIx (fVarT 12) (fVarT 22)) (fC (.int 1))) (fBin gAdd (fVarT 22) (fC (.int 1)))) faNil))) (faD (fCall W__law_sub (faD (fVar 24) (faD (fVar 23) faNil))) faNil))) faNil))) (gNm 18))
/- row 270 -/
def L29_6 : FS := (sSeq (sFor (iRng (fsCons (fBin gAdd (fVarT 22) (fC (.int 1))) fsNil)) (gNm 25)
 (sSeq (sAsg (fCall W__law_mul (faD (fVar 23) (faD (fVar 15) faNil))) (gNm 23))
 (sAsg (fCall W__law_mul (faD (fVar 24) (faD (fVar 21) faNil))) (gNm 24))))
 L29_5)
/- row 269 -/
def L29_7 : FS := (sSeq (sAsg (fTup (fsCons (fC (.int 1)) (fsCons (fC (.int 1)) fsNil))) (gNm 24))
 L29_6)
/- row 268 -/
def L29_8 : FS := (sSeq (sAsg (fTup (fsCons (fC (.int 1)) (fsCons (fC (.int 1)) fsNil))) (gNm 23))
 L29_7)
/- row 274 -/
def L29_9 : FS := (sIf (fNot (fTru (fCall W__law_same_k29 (faD (fCall W_integral (faD (fBlt bList (fsCons (fVarT 12) fsNil)) (faD (fVar 15) (faD (fVar 21) faNil)))) (faD (fVar 18) faNil)))))
 (sRet (fC (.bool false)))
 sNext)
/- row 267 -/
def L29_10 : FS := (sSeq (sFor (iRng (fsCons (fBlt bLen (fsCons (fVarT 12) fsNil)) fsNil)) (gNm 22)
 L29_8)
 L29_9)
/- row 266 -/
def L29_11 : FS := (sSeq (sAsg (fCall W__law_add (faD (fVar 15) (faD (fTup (fsCons (fC (.int 3)) (fsCons (fC (.int 2)) fsNil))) faNil))) (gNm 21))
 L29_10)
/- row 265 -/
def L29_12 : FS := (sSeq (sAsg (fTup (fsCons (fC (.int 0)) (fsCons (fC (.int 1)) fsNil))) (gNm 18))
 L29_11)
/- row 263 -/
def L29_13 : FS := (sSeq (sIf (fOr (fB (fBin gNe (fBin gIx (fVarT 16) (fC (.int 2))) (fCall W__law_mul (faD (fBin gIx (fVarT 16) (fC (.int 0))) (faD (fBin gIx (fVarT 16) (fC (.int 1))) faNil))))) (fB (fBin gNe (fBlt bLen (fsCons (fVarT 14) fsNil)) (fBin gSub (fBin gAdd (fBlt bLen (fsCons (fVarT 12) fsNil)) (fBlt bLen (fsCons (fVarT 13) fsNil))) (fC (.int 1))))))
 (sRet (fC (.bool false)))
 sNext)
 L29_12)
/- row 254 -/
def L29_14 : FS := (sSeq (sFor (iLst (fOfN (nLst (fsCons (fVar 12) (fsCons (fVar 13) (fsCons (fVar 14) fsNil)))))) (gNm 17)
 L29_4)
 L29_13)
/- row 253 -/
def L29_15 : FS := (sSeq (sOwn 16 (nLst fsNil))
 L29_14)
/- row 252 -/
def L29_16 : FS := (sSeq (sAsg (fCall W__law_ratio (faD (fBin gSub (fCall W__law_draw (faPool 1 (faD (fC (.int 9)) faNil))) (fC (.int 4))) (faD (fBin gAdd (fC (.int 1)) (fCall W__law_draw (faPool 1 (faD (fC (.int 3)) faNil)))) faNil))) (gNm 15))
 L29_15)
/- row 251 -/
def L29_17 : FS := (sSeq (sAsg (fCall W_product (faD (fBlt bList (fsCons (fVarT 12) fsNil)) (faD (fBlt bList (fsCons (fVarT 13) fsNil)) faNil))) (gNm 14))
 L29_16)
/- row 250 -/
def L29_18 : FS := (sSeq (sAsg (fOfN (nLc [22] (iRng (fsCons (fBin gAdd (fC (.int 1)) (fCall W__law_draw (faPool 1 (faD (fC (.int 3)) faNil)))) fsNil)) (gNm 22) fYes (fCall W__law_ratio (faD (fBin gSub (fCall W__law_draw (faPool 1 (faD (fC (.int 9)) faNil))) (fC (.int 4))) (faD (fBin gAdd (fC (.int 1)) (fCall W__law_draw (faPool 1 (faD (fC (.int 3)) faNil)))) faNil))))) (gNm 13))
 L29_17)
/- row 249 -/
def L29_19 : FS := (sSeq (sAsg (fOfN (nLc [22] (iRng (fsCons (fBin gAdd (fC (.int 1)) (fCall W__law_draw (faPool 1 (faD (fC (.int 3)) faNil)))) fsNil)) (gNm 22) fYes (fCall W__law_ratio (faD (fBin gSub (fCall W__law_draw (faPool 1 (faD (fC (.int 9)) faNil))) (fC (.int 4))) (faD (fBin gAdd (fC (.int 1)) (fCall W__law_draw (faPool 1 (faD (fC (.int 3)) faNil)))) faNil))))) (gNm 12))
 L29_18)
/- row 247 -/
def L29_20 : FS := (sSeq (sIf (fB (fBin gNe (fOfN (nLc [26] (iLst (fVar 10)) (gNm 26) fYes (fTup (fsCons (fBin gIx (fVarT 26) (fC (.int 0))) (fsCons (fBin gIx (fVarT 26) (fC (.int 1))) fsNil))))) (fOfN (nLc [22] (iRng (fsCons (fBin gSub (fBlt bLen (fsCons (fVarT 11) fsNil)) (fC (.int 1))) fsNil)) (gNm 22) fYes (fTup (fsCons (fBin gIx (fVarT 11) (fVarT 22)) (fsCons (fBin gIx (fVarT 11) (fBin gAdd (fVarT 22) (fC (.int 1)))) fsNil)))))))
 (sRet (fC (.bool false)))
 sNext)
 L29_19)
/- row 246 -/
def L29_21 : FS := (sSeq (sAsg (fCall W__law_breaks (faD (fVar 3) (faD (fVar 5) (faD (fVar 4) faNil)))) (gNm 11))
 L29_20)
/- row 245 -/
def L29_22 : FS := (sSeq (sAsg (fCall W_pieces (faD (fVar 3) (faD (fBlt bList (fsCons (fVarT 5) fsNil)) (faD (fBlt bList (fsCons (fVarT 4) fsNil)) (faD (fBlt bList (fsCons (fVarT 6) fsNil)) faNil))))) (gNm 10))
 L29_21)
/- row 243 -/
def L29_23 : FS := (sSeq (sIf (fNot (fTru (fCall W__law_same_k29 (faD (fCall W_judge_balance (faD (fVar 8) (faD (fBlt bList (fsCons (fVarT 4) fsNil)) (faD (fVar 9) faNil)))) (faD (fCall W__law_balances_k29 (faD (fVar 8) (faD (fVar 4) (faD (fVar 9) faNil)))) faNil)))))
 (sRet (fC (.bool false)))
 sNext)
 L29_22)
/- row 242 -/
def L29_24 : FS := (sSeq (sAsg (fOfN (nLc [22] (iRng (fsCons (fC (.int 3)) fsNil)) (gNm 22) fYes (fTup (fsCons (fCall W__law_draw (faPool 1 (faD (fC (.int 5)) faNil))) (fsCons (fC (.int 1)) fsNil))))) (gNm 9))
 L29_23)
/- row 241 -/
def L29_25 : FS := (sSeq (sAsg (fOfN (nLst (fsCons (fTup (fsCons (fC (.int 0)) (fsCons (fC (.int 1)) fsNil))) (fsCons (fCall W__law_mul (faD (fTup (fsCons (fC (.int 1)) (fsCons (fC (.int 2)) fsNil))) (faD (fVar 3) faNil))) (fsCons (fVar 3) fsNil))))) (gNm 8))
 L29_24)
/- row 239 -/
def L29_26 : FS := (sSeq (sIf (fNot (fTru (fCall W__law_same_k29 (faD (fCall W_judge_balance (faD (fBlt bList (fsCons (fVarT 5) fsNil)) (faD (fBlt bList (fsCons (fVarT 4) fsNil)) (faD (fBlt bList (fsCons (fVarT 7) fsNil)) faNil)))) (faD (fCall W__law_balances_k29 (faD (fVar 5) (faD (fVar 4) (faD (fVar 7) faNil)))) faNil)))))
 (sRet (fC (.bool false)))
 sNext)
 L29_25)
/- row 238 -/
def L29_27 : FS := (sSeq (sAsg (fCall W__law_pick (faPool 1 (faD (fOfN (nLst (fsCons (fVar 6) (fsCons (fOfN (nLst (fsCons (fBin gIx (fVarT 6) (fC (.int 1))) (fsCons (fBin gIx (fVarT 6) (fC (.int 0))) fsNil)))) (fsCons (fBin gAdd (fVarT 6) (fOfN (nLst (fsCons (fTup (fsCons (fC (.int 0)) (fsCons (fC (.int 1)) fsNil))) fsNil)))) (fsCons (fOfN (nLst (fsCons (fCall W__law_add (faD (fBin gIx (fVarT 6) (fC (.int 0))) (faD (fTup (fsCons (fC (.int 1)) (fsCons (fC (.int 3)) fsNil))) faNil))) (fsCons (fBin gIx (fVarT 6) (fC (.int 1))) fsNil)))) (fsCons (fOfN (nLst (fsCons (fCall W__law_add (faD (fBin gIx (fVarT 6) (fC (.int 0))) (faD (fTup (fsCons (fC (.int 1)) (fsCons (fC (.int 3)) fsNil))) faNil))) (fsCons (fCall W__law_sub (faD (fBin gIx (fVarT 6) (fC (.int 1))) (faD (fTup (fsCons (fC (.int 1)) (fsCons (fC (.int 3)) fsNil))) faNil))) fsNil)))) fsNil))))))) faNil))) (gNm 7))
 L29_26)
/- row 236 -/
def L29_28 : FS := (sSeq (sIf (fOr (fNot (fTru (fUn (gIsI isListD) (fVarT 6)))) (fOr (fB (fBin gNe (fBlt bLen (fsCons (fVarT 6) fsNil)) (fC (.int 2)))) (fNot (fTru (fCall W__law_balances_k29 (faD (fVar 5) (faD (fVar 4) (faD (fVar 6) faNil))))))))
 (sRet (fC (.bool false)))
 sNext)
 L29_27)
/- row 235 -/
def L29_29 : FS := (sSeq (sAsg (fCall W_two_pushes (faD (fVar 3) (faD (fBlt bList (fsCons (fVarT 5) fsNil)) (faD (fBlt bList (fsCons (fVarT 4) fsNil)) faNil)))) (gNm 6))
 L29_28)
/- row 233 -/
def L29_30 : FS := (sSeq (sIf (fB (fBin gEq (fBin gIx (fVarT 5) (fC (.int 0))) (fBin gIx (fVarT 5) (fC (.int 1)))))
 (sAsg (fOfN (nLst (fsCons (fTup (fsCons (fC (.int 0)) (fsCons (fC (.int 1)) fsNil))) (fsCons (fVar 3) fsNil)))) (gNm 5))
 sNext)
 L29_29)
/- row 231 -/
def L29_31 : FS := (sSeq (sIf (fTru (fCall W__law_less (faD (fBin gIx (fVarT 5) (fC (.int 1))) (faD (fBin gIx (fVarT 5) (fC (.int 0))) faNil))))
 (sAsg (fRev (fVarT 5)) (gNm 5))
 sNext)
 L29_30)
/- row 230 -/
def L29_32 : FS := (sSeq (sAsg (fOfN (nLst (fsCons (fCall W__law_part (faPool 1 (faD (fVar 3) (faD (fC (.int 6)) faNil)))) (fsCons (fCall W__law_part (faPool 1 (faD (fVar 3) (faD (fC (.int 6)) faNil)))) fsNil)))) (gNm 5))
 L29_31)
/- row 229 -/
def L29_33 : FS := (sSeq (sAsg (fCall W__law_loads (faPool 1 (faD (fVar 3) (faD (fC (.int 4)) faNil)))) (gNm 4))
 L29_32)
/- row 228 -/
def L29_34 : FS := (sSeq (sAsg (fCall W__law_length (faPool 1 faNil)) (gNm 3))
 L29_33)
/- row 227 -/
def L29_35 : FS := (sSeq (sDrop (fCall W__law_next (faPool 1 faNil)))
 L29_34)
/-- the law behind its first statement -/
def B_law_k29 : FS := (sSeq (sFor (iRng (fsCons (fC (.int 2)) fsNil)) (gNm 2)
 L29_35)
 (sRet (fC (.bool true))))
end TW

set_option Elab.async false
set_option linter.all false
set_option maxRecDepth 100000
set_option maxHeartbeats 400000
set_option exponentiation.threshold 10000
/-! K29: the law of pushes and pieces over data. -/
namespace TW
open PySem DL
def P29 (e : DL.Env) : Prop := ∃ l : List Slot, e = .un :: .pool :: l ∧ l.length = 25
section
variable {E : DEnds} {s2 s3 s4 s5 s6 s7 s8 s9 s10 s11 s12 s13 s14 s15 s16 s17 s18 s19 s20 s21 s22 s23 s24 s25 s26 : Slot}
/-- the law's own sum of number * power -/
theorem k29_poly {x : Rat} {p : List Rat} {M : Nat} (hx : sz x ≤ 8) (hM : ∀ c ∈ p, sz c ≤ M) (hM2 : M < 500) (hl : p.length ≤ 5) (nx : ∀ s19 s20, E.nx [.un, .pool, s2, s3, s4, s5, s6, s7, s8, s9, s10, s11, s12, s13, s14, .d (fr x), s16, .d (.list (p.map fr)), .d (fr (pv x p)), s19, s20, s21, s22, s23, s24, s25, s26]) :
    loopL (gNm 20) (sSeq (sAsg (fCall W__law_add (faD (fVar 18) (faD (fCall W__law_mul (faD (fVar 20) (faD (fVar 19) faNil))) faNil))) (gNm 18)) (sAsg (fCall W__law_mul (faD (fVar 19) (faD (fVar 15) faNil))) (gNm 19))) E (p.map fr)
      [.un, .pool, s2, s3, s4, s5, s6, s7, s8, s9, s10, s11, s12, s13, s14, .d (fr x), s16, .d (.list (p.map fr)), .d (fr 0), .d (fr 1), s20, s21, s22, s23, s24, s25, s26] := by
  refine loopL_idx (enc := fr) p (fun k e => ∃ (t w : Rat) (s20 : Slot), e = [.un, .pool, s2, s3, s4, s5, s6, s7, s8, s9, s10, s11, s12, s13, s14, .d (fr x), s16, .d (.list (p.map fr)), .d (fr t), .d (fr w), s20, s21, s22, s23, s24, s25, s26] ∧
    sz w ≤ 1 + 8 * k ∧ sz t ≤ 1 + k * (M + 60) ∧ t + w * pv x (p.drop k) = pv x p) ?_ ?_ _ ⟨0, 1, s20, rfl, by rw [sz_1]; omega, by rw [sz_0]; omega, by rw [List.drop_zero]; grind⟩
  · rintro e ⟨t, w, s20, rfl, h1, h2, h3⟩
    rw [List.drop_length] at h3
    have : t = pv x p := by rw [← h3]; show t = t + w * 0; grind
    subst this
    exact nx _ _
  · rintro k hk e nx1 hnx ⟨t, w, s20, rfl, h1, h2, h3⟩
    have hc := hM p[k] (List.getElem_mem _)
    have g1 := sz_mul p[k] w
    have g2 := sz_mul w x
    have g3 := sz_add t (p[k] * w)
    rw [List.drop_eq_getElem_cons hk] at h3
    have h3 : t + w * (pv x (p.drop (k + 1)) * x + p[k]) = pv x p := h3
    have hk4 : k * (M + 60) ≤ 4 * (M + 60) := Nat.mul_le_mul_right _ (by omega)
    simp
    refine w_lmul (by omega) (w_ladd (by omega) (w_lmul (by omega) (hnx _ ⟨_, _, _, rfl, by omega, ?_, ?_⟩)))
    · rw [Nat.add_mul]; omega
    · rw [← h3]; grind
/-- the integral as the law finds it -/
theorem pv_anti (y : Rat) (c : Rat) (p : List Rat) (k : Nat) : pv y (antiF (c :: p) k) = pv y (antiF p (k + 1)) * y + Rat.divInt c.num ((c.den : Int) * ((k : Int) + 1)) := by
  show pv y (Rat.divInt c.num ((c.den : Int) * ((k : Int) + 1)) :: antiF p (k + 1)) = _
  rfl
theorem k29_pow {x y : Rat} {k n : Nat} {t : Slot} (hx : sz x ≤ 8) (hy : sz y ≤ 8) (hn : n < 10)
    (nx : ∀ s25, E.nx [.un, .pool, s2, s3, s4, s5, s6, s7, s8, s9, s10, s11, s12, s13, s14, .d (fr x), s16, s17, t, s19, s20, .d (fr y), .d (.int k), .d (fr (x ^ n)), .d (fr (y ^ n)), s25, s26]) :
    loopL (gNm 25) (sSeq (sAsg (fCall W__law_mul (faD (fVar 23) (faD (fVar 15) faNil))) (gNm 23)) (sAsg (fCall W__law_mul (faD (fVar 24) (faD (fVar 21) faNil))) (gNm 24))) E (rngD 0 (n : Int))
      [.un, .pool, s2, s3, s4, s5, s6, s7, s8, s9, s10, s11, s12, s13, s14, .d (fr x), s16, s17, t, s19, s20, .d (fr y), .d (.int k), .d (fr 1), .d (fr 1), s25, s26] := by
  refine loopL_range n (fun j e => ∃ s25, e = [.un, .pool, s2, s3, s4, s5, s6, s7, s8, s9, s10, s11, s12, s13, s14, .d (fr x), s16, s17, t, s19, s20, .d (fr y), .d (.int k), .d (fr (x ^ j)), .d (fr (y ^ j)), s25, s26] ∧ sz (x ^ j) ≤ 1 + 8 * j ∧ sz (y ^ j) ≤ 1 + 8 * j) ?_ ?_ _
    ⟨s25, by rw [Rat.pow_zero, Rat.pow_zero], by rw [Rat.pow_zero, sz_1]; omega, by rw [Rat.pow_zero, sz_1]; omega⟩
  · rintro e ⟨s25, rfl, _⟩
    exact nx _
  · rintro j hj e nx1 hnx ⟨s25, rfl, h1, h2⟩
    have g1 := sz_mul (x ^ j) x
    have g2 := sz_mul (y ^ j) y
    simp
    refine w_lmul (by omega) (w_lmul (by omega) (hnx _ ⟨.d (.int j), ?_, ?_, ?_⟩))
    · rw [Rat.pow_succ, Rat.pow_succ]
    · rw [Rat.pow_succ]; omega
    · rw [Rat.pow_succ]; omega
theorem sz_pow (x : Rat) (hx : sz x ≤ 8) : ∀ n : Nat, sz (x ^ n) ≤ 1 + 8 * n
  | 0 => by rw [Rat.pow_zero, sz_1]; omega
  | n + 1 => by
    have := sz_pow x hx n
    have := sz_mul (x ^ n) x
    rw [Rat.pow_succ]; omega
/-- rows 267 and on: the integral -/
theorem k29_int {x y : Rat} {f : List Rat} (hx : sz x ≤ 8) (hy : sz y ≤ 8) (hf : ∀ c ∈ f, sz c ≤ 8) (hl : f.length ≤ 4) (hnx : ∀ e, P29 e → E.nx e) :
    L29_10 E [.un, .pool, s2, s3, s4, s5, s6, s7, s8, s9, s10, s11, .d (.list (f.map fr)), s13, s14, .d (fr x), s16, s17, .d (fr 0), s19, s20, .d (fr y), s22, s23, s24, s25, s26] := by
  simp [L29_10]
  refine ⟨by omega, ?_⟩
  refine loopL_range f.length (fun k e => ∃ (t : Rat) (s22 s23 s24 s25 : Slot), e = [.un, .pool, s2, s3, s4, s5, s6, s7, s8, s9, s10, s11, .d (.list (f.map fr)), s13, s14, .d (fr x), s16, s17, .d (fr t), s19, s20, .d (fr y), s22, s23, s24, s25, s26] ∧
    sz t ≤ 1 + k * 200 ∧ t + (y ^ (k + 1) * pv y (antiF (f.drop k) k) - x ^ (k + 1) * pv x (antiF (f.drop k) k)) = pv y (anti f) - pv x (anti f)) ?_ ?_ _ ⟨0, s22, s23, s24, s25, rfl, by rw [sz_0]; omega, ?_⟩
  · rintro e ⟨t, s22, s23, s24, s25, rfl, h1, h2⟩
    rw [List.drop_length] at h2
    have : t = pv y (anti f) - pv x (anti f) := by rw [← h2]; show t = t + (_ * 0 - _ * 0); grind
    subst this
    simp [L29_9]
    refine w_integral (s := 8) ⟨hf, hx, hy, by have := Nat.mul_le_mul_right (2 * 8 + 11) (show f.length + 1 ≤ 5 by omega); omega, by omega⟩ ?_
    refine w_same_fr ?_
    simp
    exact hnx _ ⟨_, rfl, rfl⟩
  · rintro k hk e nx1 hnx1 ⟨t, s22, s23, s24, s25, rfl, h1, h2⟩
    have hc := hf f[k] (List.getElem_mem _)
    have hg : (f.map fr)[k]? = some (fr f[k]) := by rw [List.getElem?_map, List.getElem?_eq_getElem hk]; rfl
    have hg2 : ∀ K : D → Prop, gIx (.list (f.map fr)) (.int (k : Int)) K = K (fr f[k]) := fun K => gIxL_n hg
    rw [List.drop_eq_getElem_cons hk, pv_anti, pv_anti] at h2
    simp [L29_8, L29_7, L29_6]
    refine ⟨by omega, by omega, ?_⟩
    rw [show (k : Int) + 1 = ((k + 1 : Nat) : Int) by omega, fr_1]
    refine k29_pow (n := k + 1) hx hy (by omega) fun s25 => ?_
    simp [L29_5, hg2]
    simp only [fr, gIxT_0, gIxT_1, gMul_i]
    have hd := f[k].den_pos
    have b2 : ((f[k].den : Int) * ((k : Int) + 1)).natAbs < 2 ^ (8 + 4) := natAbs_mul_lt (pow_up (den_abs _) hc) (by omega)
    have hne : (f[k].den : Int) * ((k : Int) + 1) ≠ 0 := Int.mul_ne_zero (by omega) (by omega)
    have b1 := pow_up (num_lt f[k]) (show sz f[k] ≤ 12 by omega)
    have hq := sz_divInt hne b1 b2
    refine ⟨.inr (.inr (by omega)), ?_⟩
    refine w_lratio (k := 12) hne b1 b2 (by decide) ?_
    generalize hd2 : Rat.divInt f[k].num ((f[k].den : Int) * ((k : Int) + 1)) = q at hq h2 ⊢
    have p1 := sz_pow x hx (k + 1)
    have p2 := sz_pow y hy (k + 1)
    have g1 := sz_sub (y ^ (k + 1)) (x ^ (k + 1))
    have g2 := sz_mul q (y ^ (k + 1) - x ^ (k + 1))
    have g3 := sz_add t (q * (y ^ (k + 1) - x ^ (k + 1)))
    refine w_lsub (by omega) (w_lmul (by omega) (w_ladd (by omega) (hnx1 _ ⟨_, _, _, _, _, rfl, by omega, ?_⟩)))
    rw [← h2, Rat.pow_succ (n := k + 1), Rat.pow_succ (n := k + 1)]
    grind
  · show 0 + (y ^ 1 * pv y (antiF (f.drop 0) 0) - x ^ 1 * pv x (antiF (f.drop 0) 0)) = (pv y (antiF f 0) * y + 0) - (pv x (antiF f 0) * x + 0)
    rw [List.drop_zero, Rat.pow_one, Rat.pow_one]; grind
/-- rows 254 and on: the three lists -/
theorem k29_three {x : Rat} {f g : List Rat} (hx : sz x ≤ 4) (hf : ∀ c ∈ f, sz c ≤ 4) (hg : ∀ c ∈ g, sz c ≤ 4) (hl : f.length ≤ 3) (hl2 : g.length ≤ 3) (h0 : f ≠ []) (hnx : ∀ e, P29 e → E.nx e) :
    L29_15 E [.un, .pool, s2, s3, s4, s5, s6, s7, s8, s9, s10, s11, .d (.list (f.map fr)), .d (.list (g.map fr)), .d (.list ((prodQ f g).map fr)), .d (fr x), s16, s17, s18, s19, s20, s21, s22, s23, s24, s25, s26] := by
  have hB := prodQ_B hf hg
  have hm1 : f.length * (g.length * (2 * 4 + 1)) ≤ 3 * (3 * 9) := Nat.mul_le_mul hl (Nat.mul_le_mul hl2 (by decide))
  have hpl := prodQ_len f g
  have h0' : 0 < f.length := List.length_pos_iff.mpr h0
  have three : [PyData.list (f.map fr), PyData.list (g.map fr), PyData.list ((prodQ f g).map fr)] = [f, g, prodQ f g].map fun p => PyData.list (p.map fr) := rfl
  simp [L29_15, L29_14]
  rw [three]
  refine loopL_mem (E := { nx := L29_13 E, rt := E.rt, bk := E.bk, ct := E.ct }) [f, g, prodQ f g] (fun r e => ∃ (d : List (List Rat)) (s17 s18 s19 s20 : Slot), e = [.un, .pool, s2, s3, s4, s5, s6, s7, s8, s9, s10, s11, .d (.list (f.map fr)), .d (.list (g.map fr)), .d (.list ((prodQ f g).map fr)), .d (fr x), .own ((d.map (pv x)).map fr), s17, s18, s19, s20, s21, s22, s23, s24, s25, s26] ∧ d ++ r = [f, g, prodQ f g]) ?_ ?_ _ ⟨[], s17, s18, s19, s20, rfl, rfl⟩
  · rintro e ⟨d, s17, s18, s19, s20, rfl, hd⟩
    rw [List.append_nil] at hd
    subst hd
    have e1 := pv_prod x f g h0
    have zf := sz_pv (x := x) hf
    have zg := sz_pv (x := x) hg
    have m1 : f.length * (sz x + 4 + 1) ≤ 3 * 9 := Nat.mul_le_mul hl (by omega)
    have m2 : g.length * (sz x + 4 + 1) ≤ 3 * 9 := Nat.mul_le_mul hl2 (by omega)
    have e2 : ((prodQ f g).length : Int) = (f.length : Int) + (g.length : Int) - 1 := by omega
    simp [L29_13, eqD_fr]
    refine w_lmul (by omega) ?_
    simp only [eqD_fr]
    simp [e1, e2, L29_12]
    simp [L29_11]
    rw [fr_0]
    have hh : PyData.tuple [.int 3, .int 2] = fr (3/2) := by
      have h1 : (3/2 : Rat).num = 3 := by decide +kernel
      have h2 : (3/2 : Rat).den = 2 := by decide +kernel
      unfold fr; rw [h1, h2]; rfl
    have hz : sz (3/2) = 2 := by decide +kernel
    rw [hh]
    have hzz := sz_add x (3/2)
    refine w_ladd (by omega) ?_
    exact k29_int (by omega) (by omega) (fun c hc => by have := hf c hc; omega) (by omega) hnx
  · rintro p r e nx hp hnx1 ⟨d, s17, s18, s19, s20, rfl, hd⟩
    have hpl : p.length ≤ 5 ∧ ∀ c ∈ p, sz c ≤ 100 := by
      simp at hp
      rcases hp with rfl | rfl | rfl
      · exact ⟨by omega, fun c hc => by have := hf c hc; omega⟩
      · exact ⟨by omega, fun c hc => by have := hg c hc; omega⟩
      · exact ⟨by omega, fun c hc => by have := hB c hc; omega⟩
    simp [L29_4, L29_3, L29_2]
    rw [fr_0, fr_1]
    refine k29_poly (M := 100) (by omega) hpl.2 (by decide) hpl.1 fun s19 s20 => ?_
    have hdl : d.length < sizeLine := by
      have := congrArg List.length hd
      simp at this
      show _ < 16777216; omega
    simp [L29_1, L29_0, sApp, mutS]
    refine ⟨hdl, ?_⟩
    refine w_value_at (s := 100) ⟨hpl.2, by have := Nat.mul_le_mul hpl.1 (show sz x + 100 + 1 ≤ 105 by omega); omega⟩ (w_same_fr ?_)
    simp
    exact hnx1 _ ⟨d ++ [p], _, _, _, _, by simp; exact ⟨rfl, rfl, rfl, rfl⟩, by simpa using hd⟩
/-- rows 249 and on -/
theorem k29_lists (hnx : ∀ e, P29 e → E.nx e) : L29_19 E [.un, .pool, s2, s3, s4, s5, s6, s7, s8, s9, s10, s11, s12, s13, s14, s15, s16, s17, s18, s19, s20, s21, s22, s23, s24, s25, s26] := by
  simp [L29_19]
  refine w_draw (by decide) (by decide) fun m hm => ?_
  simp
  refine ⟨by omega, by omega, ?_⟩
  rw [rngD_nat' _ (m + 1) (by omega)]
  refine compL_anyR (P := fun c => sz c ≤ 4) (dec := fr) (m + 1) (by omega) (fun k hk R r => ?_) fun f hf1 hf2 => ?_
  · simp
    exact w_rd (k := 4) (by decide) (by decide) (by decide) (by decide) (by decide) (by decide) (by decide) r
  simp [L29_18]
  refine w_draw (by decide) (by decide) fun n hn => ?_
  simp
  refine ⟨by omega, by omega, ?_⟩
  rw [rngD_nat' _ (n + 1) (by omega)]
  refine compL_anyR (P := fun c => sz c ≤ 4) (dec := fr) (n + 1) (by omega) (fun k hk R r => ?_) fun g hg1 hg2 => ?_
  · simp
    exact w_rd (k := 4) (by decide) (by decide) (by decide) (by decide) (by decide) (by decide) (by decide) r
  have h0 : f ≠ [] := by intro e; rw [e] at hf1; simp at hf1
  simp [L29_17]
  refine w_product (s := 4) ⟨hf2, hg2, by have := Nat.mul_le_mul (Nat.mul_le_mul (show f.length ≤ 3 by omega) (show g.length ≤ 3 by omega)) (Nat.le_refl 9); omega, by omega, by omega, h0, by decide⟩ ?_
  simp [L29_16]
  refine w_rd (k := 4) (by decide) (by decide) (by decide) (by decide) (by decide) (by decide) (by decide) fun x hx => ?_
  exact k29_three hx hf2 hg2 (by omega) (by omega) h0 hnx
theorem eqD_refl_list {xs : List D} (h : ∀ x ∈ xs, eqD x x = true) : eqD (.list xs) (.list xs) = true := by
  show PyData.eqvAll xs xs = true
  induction xs with
  | nil => rfl
  | cons x xs ih =>
    show (PyData.eqv x x && PyData.eqvAll xs xs) = true
    rw [show PyData.eqv x x = true from h x (by simp), ih fun y hy => h y (by simp [hy])]; rfl
theorem eqD_pair (a b : Rat) : eqD (.tuple [fr a, fr b]) (.tuple [fr a, fr b]) = true := by
  show (PyData.eqv (fr a) (fr a) && (PyData.eqv (fr b) (fr b) && true)) = true
  rw [show PyData.eqv (fr a) (fr a) = true from by have := eqD_fr a a; simpa [eqD] using this, show PyData.eqv (fr b) (fr b) = true from by have := eqD_fr b b; simpa [eqD] using this]; rfl
theorem okN_pair (a b : Rat) : okN 2 (.tuple [fr a, fr b]) := okN_tuple (n := 1) fun x hx => by
  simp at hx
  rcases hx with rfl | rfl <;> exact okN_fr _
theorem range_pairs (pl : List Rat) : (List.range (pl.length - 1)).map (fun k => PyData.tuple [fr (pl.getD k 0), fr (pl.getD (k + 1) 0)]) = (pl.zip pl.tail).map fun p => PyData.tuple [fr p.1, fr p.2] := by
  apply List.ext_getElem
  · simp
  · intro i h1 h2
    have hi : i + 1 < pl.length := by simp at h1; omega
    simp [List.getD_eq_getElem?_getD, hi, show i < pl.length by omega]
/-- rows 247 and on -/
theorem k29_breaks {pl : List Rat} {w : Rat → D} (hpl : pl.length < 5000) (h0 : 0 < pl.length) (hnx : ∀ e, P29 e → E.nx e) :
    L29_20 E [.un, .pool, s2, s3, s4, s5, s6, s7, s8, s9, .d (.list ((pl.zip pl.tail).map fun p => .tuple [fr p.1, fr p.2, w p.1])), .d (.list (pl.map fr)), s12, s13, s14, s15, s16, s17, s18, s19, s20, s21, s22, s23, s24, s25, s26] := by
  have hz : (pl.zip pl.tail).length ≤ sizeLine := by simp; show _ ≤ 16777217; omega
  simp [L29_20]
  refine compL_map hz (φ := fun p => .tuple [fr p.1, fr p.2]) (fun p hp R r => by simpa using r) ?_
  refine ⟨by omega, by omega, ?_⟩
  rw [rngD_nat' _ (pl.length - 1) (by omega), rngD_nat]
  refine compL_map (enc := fun k : Nat => PyData.int (k : Int)) (by simp; show _ ≤ 16777217; omega) (φ := fun k => .tuple [fr (pl.getD k 0), fr (pl.getD (k + 1) 0)]) (fun k hk R r => ?_) ?_
  · have hk : k < pl.length - 1 := by simpa using hk
    have g1 : ∀ K : D → Prop, gIx (.list (pl.map fr)) (.int (k : Int)) K = K (fr (pl.getD k 0)) := fun K => gIxL_n (by simp [List.getD_eq_getElem?_getD, show k < pl.length by omega])
    have g2 : ∀ K : D → Prop, gIx (.list (pl.map fr)) (.int ((k : Int) + 1)) K = K (fr (pl.getD (k + 1) 0)) := fun K => by
      rw [show (k : Int) + 1 = ((k + 1 : Nat) : Int) by omega]
      exact gIxL_n (by simp [List.getD_eq_getElem?_getD, show k + 1 < pl.length by omega])
    simp only [fTup_eq, fsCons_eq, fsNil_eq, fBin_eq, gNm_eq, List.set_cons_succ, List.set_cons_zero, fVarT_S, fVarT_0, g1, g2, gAdd_i, fC_eq]
    exact r
  · rw [range_pairs]
    have ok : okD (.list ((pl.zip pl.tail).map fun p => PyData.tuple [fr p.1, fr p.2])) = true := okD_of (n := 3) (okN_list fun x hx => by
      obtain ⟨p, _, rfl⟩ := List.mem_map.mp hx
      exact okN_pair _ _)
    refine ⟨ok, ok, ?_⟩
    rw [eqD_refl_list fun x hx => by
      obtain ⟨p, _, rfl⟩ := List.mem_map.mp hx
      exact eqD_pair _ _]
    simp
    exact k29_lists hnx
theorem tot2 (p q : Rat) : tot [p, q] = p + q := by rw [tot_cons, tot_cons, tot_nil]; grind
theorem tot_lin (ls : List Ld) (a : Rat) : tot (ls.map fun l => l.w * (l.m - a)) = tot (ls.map fun l => l.w * l.m) - a * tot (ls.map Ld.w) := by
  induction ls with
  | nil => simp [tot_nil]; grind
  | cons l ls ih => rw [List.map_cons, List.map_cons, List.map_cons, tot_cons, tot_cons, tot_cons, ih]; grind
theorem bal_two {a b : Rat} {ls : List Ld} (h : a ≠ b) : bal [a, b] ls [push1 a b ls, push2 a b ls] = true := by
  have e1 : right a ls = msum ls - a * wsum ls := tot_lin ls a
  have e2 : push2 a b ls * (b - a) = right a ls := by
    unfold push2
    rw [Rat.div_mul_cancel]
    intro e; exact h (by grind)
  unfold bal mv
  simp only [List.length_cons, List.length_nil, decide_true, Bool.true_and, List.zip_cons_cons, List.zip_nil_right, List.map_cons, List.map_nil, tot2, Bool.and_eq_true, decide_eq_true_eq]
  unfold push1
  constructor <;> grind
theorem sz_nat (v : Nat) (k : Nat) (h : v < 2 ^ k) (hk : 1 ≤ k) : sz (v : Rat) ≤ k := by
  refine sz_le ?_ ?_
  · rw [Rat.num_natCast]; simpa using h
  · rw [Rat.den_natCast]
    exact Nat.lt_of_lt_of_le (by decide : 1 < 2 ^ 1) (Nat.pow_le_pow_right (by decide) hk)
theorem fr_nat (v : Nat) : PyData.tuple [.int (v : Int), .int 1] = fr (v : Rat) := rfl
section
variable {L a b : Rat} {ls : List Ld}
/-- rows 245 and on -/
theorem k29_pieces (hL : sz L ≤ 5) (hb : ∀ l ∈ ls, l.B 8) (hl : ls.length ≤ 4) (ha : sz a ≤ 8) (hb2 : sz b ≤ 8) {p q : Rat} (hp : sz p ≤ 400) (hq : sz q ≤ 400) (hnx : ∀ e, P29 e → E.nx e) :
    L29_22 E [.un, .pool, s2, .d (fr L), .d (.list (ls.map ld)), .d (.list [fr a, fr b]), .d (.list [fr p, fr q]), s7, s8, s9, s10, s11, s12, s13, s14, s15, s16, s17, s18, s19, s20, s21, s22, s23, s24, s25, s26] := by
  have cb : CutB 8 L [a, b] ls := ⟨hb, fun s hs => by simp at hs; rcases hs with rfl | rfl <;> assumption, by omega, by decide, by decide, by simp, by omega⟩
  have hol : (ordQ (cuts L [a, b] ls)).length ≤ 3100 := by have := fold_len (cuts L [a, b] ls) []; have := cb.len; unfold ordQ; simp at *; omega
  have h0 : 0 < (ordQ (cuts L [a, b] ls)).length := List.length_pos_iff.mpr fun e => by
    have : (0 : Rat) ∈ ordQ (cuts L [a, b] ls) := ord_mem.mpr (by simp [cuts])
    rw [e] at this; simp at this
  simp [L29_22]
  refine w_pieces (n := 8) (m := 400) (j := 8) (L := L) (ss := [a, b]) (ps := [p, q]) ⟨cb, hb, fun s hs => by simp at hs; rcases hs with rfl | rfl <;> assumption, rfl, by have := Nat.mul_le_mul_right (5 * 8 + 9) hl; simp; omega, by decide⟩ ?_
  simp [L29_21]
  refine w_breaks (n := 8) (ss := [a, b]) cb ?_
  exact k29_breaks (w := fun x => v3 (pcs [a, b] [p, q] ls x)) (by omega) h0 hnx
theorem k29_drawn (hL : sz L ≤ 5) (hb : ∀ l ∈ ls, l.B 8) (hl : ls.length ≤ 4) (ha : sz a ≤ 8) (hb2 : sz b ≤ 8) {p q : Rat} (hp : sz p ≤ 400) (hq : sz q ≤ 400) (hnx : ∀ e, P29 e → E.nx e) :
    L29_25 E [.un, .pool, s2, .d (fr L), .d (.list (ls.map ld)), .d (.list [fr a, fr b]), .d (.list [fr p, fr q]), s7, s8, s9, s10, s11, s12, s13, s14, s15, s16, s17, s18, s19, s20, s21, s22, s23, s24, s25, s26] := by
  simp [L29_25]
  have hz := sz_half
  have hm := sz_mul (1/2) L
  rw [fr_half, fr_0]
  refine w_lmul (by omega) ?_
  simp [L29_24]
  rw [show rngD 0 3 = rngD 0 ((3 : Nat) : Int) from rfl]
  refine compL_anyR (P := fun v : Nat => v < 5) (dec := fun v => fr (v : Rat)) 3 (by decide) (fun k hk R r => ?_) fun vs hv1 hv2 => ?_
  · simp
    refine w_draw (by decide) (by decide) fun v hv => ?_
    exact r v (by omega)
  have bb : BalB 8 400 [0, 1/2 * L, L] ls (vs.map fun v : Nat => (v : Rat)) := ⟨hb, fun s hs => by
      simp at hs
      rcases hs with rfl | rfl | rfl
      · rw [sz_0]; decide
      · omega
      · omega, fun s hs => by
      obtain ⟨v, hv, rfl⟩ := List.mem_map.mp hs
      have := sz_nat v 3 (by have := hv2 v hv; omega) (by decide)
      omega, by have := Nat.mul_le_mul_right (5 * 8 + 5) hl; omega, by simp [hv1], by omega, by simp [hv1], by decide, by decide⟩
  rw [show vs.map (fun v : Nat => fr (v : Rat)) = (vs.map fun v : Nat => (v : Rat)).map fr by simp]
  simp only [L29_23, sSeq_eq, sIf_eq]
  simp only [fNot_eq, fTru_eq, fCall_eq, faD_eq, faNil_eq, fVar_S, fVar_0, fBlt_eq, fsCons_eq, fsNil_eq, fVarT_S, fVarT_0, bList_l, bList_t]
  refine w_judge_balance (ss := [0, 1/2 * L, L]) bb ?_
  refine w_law_balances (ss := [0, 1/2 * L, L]) bb ?_
  refine w_same_bool ?_
  simp
  exact k29_pieces hL hb hl ha hb2 hp hq hnx
theorem k29_judge (hL : sz L ≤ 5) (hb : ∀ l ∈ ls, l.B 8) (hl : ls.length ≤ 4) (ha : sz a ≤ 8) (hb2 : sz b ≤ 8) (hne : a ≠ b) (hnx : ∀ e, P29 e → E.nx e) :
    L29_29 E [.un, .pool, s2, .d (fr L), .d (.list (ls.map ld)), .d (.list [fr a, fr b]), s6, s7, s8, s9, s10, s11, s12, s13, s14, s15, s16, s17, s18, s19, s20, s21, s22, s23, s24, s25, s26] := by
  have l9 := Nat.mul_le_mul_right (8 * 8 + 8 + 8) hl
  have l6 := Nat.mul_le_mul_right (5 * 8 + 8 + 6) hl
  have z1 := sz_push1 (n := 8) (k := 8) (ls := ls) hb ha hb2 hne
  have z2 := sz_push2 (n := 8) (k := 8) (ls := ls) hb ha hb2 hne
  have hbal := bal_two (ls := ls) hne
  have fin := fun s7 : Slot => k29_drawn (E := E) (s2 := s2) (s7 := s7) (s8 := s8) (s9 := s9) (s10 := s10) (s11 := s11) (s12 := s12) (s13 := s13) (s14 := s14) (s15 := s15) (s16 := s16) (s17 := s17) (s18 := s18) (s19 := s19) (s20 := s20) (s21 := s21) (s22 := s22) (s23 := s23) (s24 := s24) (s25 := s25) (s26 := s26) (p := push1 a b ls) (q := push2 a b ls) hL hb hl ha hb2 (by omega) (by omega) hnx
  have z1 : sz (push1 a b ls) ≤ 344 := by omega
  have z2 : sz (push2 a b ls) ≤ 344 := by omega
  simp [L29_29]
  refine w_two (n := 8) (k := 8) (fr L) hb ha hb2 hne (by omega) (by decide) (by omega) ?_
  generalize push1 a b ls = p at *
  generalize push2 a b ls = q at *
  have hs : ∀ s ∈ [a, b], sz s ≤ 8 := fun s hs => by simp at hs; rcases hs with rfl | rfl <;> assumption
  have mk : ∀ ps : List Rat, (∀ p ∈ ps, sz p ≤ 400) → ps.length ≤ 3 → BalB 8 400 [a, b] ls ps := fun ps h1 h2 => ⟨hb, hs, h1, by have := Nat.mul_le_mul_right (5 * 8 + 5) hl; omega, by have := Nat.mul_le_mul_right (8 + 400 + 1) h2; omega, by omega, by omega, by decide, by decide⟩
  have jud : ∀ (ps : List Rat), BalB 8 400 [a, b] ls ps → L29_26 E [.un, .pool, s2, .d (fr L), .d (.list (ls.map ld)), .d (.list [fr a, fr b]), .d (.list [fr p, fr q]), .d (.list (ps.map fr)), s8, s9, s10, s11, s12, s13, s14, s15, s16, s17, s18, s19, s20, s21, s22, s23, s24, s25, s26] := fun ps b => by
    simp only [L29_26, sSeq_eq, sIf_eq]
    simp only [fNot_eq, fTru_eq, fCall_eq, faD_eq, faNil_eq, fVar_S, fVar_0, fBlt_eq, fsCons_eq, fsNil_eq, fVarT_S, fVarT_0, bList_l, bList_t]
    refine w_judge_balance (ss := [_, _]) b ?_
    refine w_law_balances (ss := [_, _]) b ?_
    refine w_same_bool ?_
    simp
    exact fin _
  simp only [L29_28, sSeq_eq, sIf_eq]
  simp [isListD]
  refine w_law_balances (ss := [a, b]) (ps := [p, q]) (mk [p, q] (fun s hs => by simp at hs; rcases hs with rfl | rfl <;> omega) (by simp)) ?_
  rw [hbal]
  simp [L29_27]
  have h13 : PyData.tuple [.int 1, .int 3] = fr (1/3) := by
    have h1 : (1/3 : Rat).num = 1 := by decide +kernel
    have h2 : (1/3 : Rat).den = 3 := by decide +kernel
    unfold fr; rw [h1, h2]; rfl
  have z13 : sz (1/3) = 2 := by decide +kernel
  have a1 := sz_add p (1/3)
  have a2 := sz_sub q (1/3)
  rw [h13, fr_0]
  refine ⟨by decide, w_ladd (by omega) (w_ladd (by omega) (w_lsub (by omega) ?_))⟩
  refine w_lpick (by simp) (by simp) fun x hx => ?_
  simp at hx
  have z0 := sz_0
  rcases hx with rfl | rfl | rfl | rfl | rfl
  · exact jud [p, q] (mk _ (fun s hs => by simp at hs; rcases hs with rfl | rfl <;> omega) (by simp))
  · exact jud [q, p] (mk _ (fun s hs => by simp at hs; rcases hs with rfl | rfl <;> omega) (by simp))
  · exact jud [p, q, 0] (mk _ (fun s hs => by simp at hs; rcases hs with rfl | rfl | rfl <;> omega) (by simp))
  · exact jud [p + 1/3, q] (mk _ (fun s hs => by simp at hs; rcases hs with rfl | rfl <;> omega) (by simp))
  · exact jud [p + 1/3, q - 1/3] (mk _ (fun s hs => by simp at hs; rcases hs with rfl | rfl <;> omega) (by simp))
end
/-- one turn -/
theorem k29_turn (hnx : ∀ e, P29 e → E.nx e) : L29_35 E [.un, .pool, s2, s3, s4, s5, s6, s7, s8, s9, s10, s11, s12, s13, s14, s15, s16, s17, s18, s19, s20, s21, s22, s23, s24, s25, s26] := by
  simp [L29_35]
  refine w_next ?_
  simp [L29_34]
  refine w_llength fun L hL sL => ?_
  have hL0 : 0 ≤ L := Rat.le_of_lt hL
  simp [L29_33]
  refine w_lloads (most := 4) hL0 sL (by decide) fun ls hls hok => ?_
  have hb : ∀ l ∈ ls, l.B 8 := fun l hl => (hok l hl).b
  simp [L29_32]
  refine w_lpart (k := 6) (by decide) (by decide) hL0 (by omega) fun a a0 aL as => ?_
  refine w_lpart (k := 6) (by decide) (by decide) hL0 (by omega) fun b b0 bL bs => ?_
  have sa : sz a ≤ 8 := by omega
  have sb : sz b ≤ 8 := by omega
  have s0 : sz 0 ≤ 8 := by rw [sz_0]; decide
  have go : ∀ (a b : Rat), sz a ≤ 8 → sz b ≤ 8 → L29_30 E [.un, .pool, s2, .d (fr L), .d (.list (ls.map ld)), .d (.list [fr a, fr b]), s6, s7, s8, s9, s10, s11, s12, s13, s14, s15, s16, s17, s18, s19, s20, s21, s22, s23, s24, s25, s26] := fun a b sa sb => by
    simp [L29_30]
    rw [eqD_fr]
    by_cases h : a = b
    · simp [h]
      rw [fr_0]
      exact k29_judge sL hb hls s0 (by omega) (by grind) hnx
    · simp [h]
      exact k29_judge sL hb hls sa sb h hnx
  simp [L29_31]
  refine w_lless (by omega) ?_
  by_cases h : b < a
  · simp [h]
    exact go b a sb sa
  · simp [h]
    exact go a b sa sb
theorem law29 (h : E.rt (.bool true)) : B_law_k29 E (.un :: .pool :: List.replicate 25 .un) := by
  simp only [B_law_k29, sSeq_eq, sFor_eq, iRng_eq, fsCons_eq, fsNil_eq, fC_eq]
  refine ⟨by decide, by decide, ?_⟩
  rw [show rngD 0 2 = rngD 0 ((2 : Nat) : Int) from rfl]
  refine loopL_range (E := { nx := sRet (fC (.bool true)) E, rt := E.rt, bk := E.bk, ct := E.ct }) 2 (fun _ e => P29 e) (fun e _ => h) (fun k hk e nx h1 h2 => ?_) _ ⟨_, rfl, by simp⟩
  obtain ⟨l, rfl, hl⟩ := h2
  match l, hl with
  | [s2, s3, s4, s5, s6, s7, s8, s9, s10, s11, s12, s13, s14, s15, s16, s17, s18, s19, s20, s21, s22, s23, s24, s25, s26], _ => exact k29_turn (fun e he => h1 e he)
end
end TW

set_option Elab.async false
set_option linter.all false
set_option maxRecDepth 100000
/-! SMom: printed by gen.py: the semantics of defs over data. -/
namespace TW
open PySem DL
def B_moment_at : FS := (sSeq (sFor (iLst (fVar 0)) (gTp (gsCons (gNm 2) (gsCons (gNm 3) (gsCons (gNm 4) gsNil))))
 (sIf (fNot (fTru (fCall W_less (faD (fVar 3) (faD (fVar 1) faNil)))))
 (sRet (fCall W_value_at (faD (fVar 4) (faD (fVar 1) faNil))))
 sNext))
 (sRet (fC (.tuple [.int 0, .int 1]))))
def W_moment_at : W := runD 5 B_moment_at
def B__law_turning : FS := (sSeq (sIf (fB (fBin gEq (fBin gIx (fVarT 0) (fC (.int 0))) (fC (.str "point"))))
 (sRet (fIte (fNot (fTru (fCall W__law_less (faD (fVar 1) (faD (fBin gIx (fVarT 0) (fC (.int 1))) faNil))))) (fCall W__law_mul (faD (fBin gIx (fVarT 0) (fC (.int 2))) (faD (fCall W__law_sub (faD (fVar 1) (faD (fBin gIx (fVarT 0) (fC (.int 1))) faNil))) faNil))) (fTup (fsCons (fC (.int 0)) (fsCons (fC (.int 1)) fsNil)))))
 sNext)
 (sSeq (sPar 2 3 (fBin gIx (fVarT 0) (fC (.int 1))) (fBin gIx (fVarT 0) (fC (.int 2))))
 (sSeq (sIf (fTru (fCall W__law_less (faD (fVar 1) (faD (fVar 2) faNil))))
 (sRet (fTup (fsCons (fC (.int 0)) (fsCons (fC (.int 1)) fsNil))))
 sNext)
 (sSeq (sAsg (fIte (fTru (fCall W__law_less (faD (fVar 1) (faD (fVar 3) faNil)))) (fVar 1) (fVar 3)) (gNm 4))
 (sSeq (sAsg (fCall W__law_mul (faD (fTup (fsCons (fC (.int 1)) (fsCons (fC (.int 2)) fsNil))) (faD (fCall W__law_add (faD (fVar 2) (faD (fVar 4) faNil))) faNil))) (gNm 5))
 (sRet (fCall W__law_mul (faD (fCall W__law_mul (faD (fBin gIx (fVarT 0) (fC (.int 3))) (faD (fCall W__law_sub (faD (fVar 4) (faD (fVar 2) faNil))) faNil))) (faD (fCall W__law_sub (faD (fVar 1) (faD (fVar 5) faNil))) faNil)))))))))
def W__law_turning : W := runD 6 B__law_turning
def B__law_moment : FS := (sSeq (sAsg (fTup (fsCons (fC (.int 0)) (fsCons (fC (.int 1)) fsNil))) (gNm 4))
 (sSeq (sFor (iRng (fsCons (fBlt bLen (fsCons (fVarT 0) fsNil)) fsNil)) (gNm 5)
 (sIf (fNot (fTru (fCall W__law_less (faD (fVar 3) (faD (fBin gIx (fVarT 0) (fVarT 5)) faNil)))))
 (sAsg (fCall W__law_add (faD (fVar 4) (faD (fCall W__law_mul (faD (fBin gIx (fVarT 2) (fVarT 5)) (faD (fCall W__law_sub (faD (fVar 3) (faD (fBin gIx (fVarT 0) (fVarT 5)) faNil))) faNil))) faNil))) (gNm 4))
 sNext))
 (sSeq (sFor (iLst (fVar 1)) (gNm 6)
 (sAsg (fCall W__law_sub (faD (fVar 4) (faD (fCall W__law_turning (faD (fVar 6) (faD (fVar 3) faNil))) faNil))) (gNm 4)))
 (sRet (fVar 4)))))
def W__law_moment : W := runD 7 B__law_moment
end TW

set_option Elab.async false
set_option linter.all false
set_option maxRecDepth 100000
set_option maxHeartbeats 400000
set_option exponentiation.threshold 10000
/-! KMom: the moment at a place: by the pieces, by what stands to the left. -/
namespace TW
open PySem DL
def turnQ (l : Ld) (x : Rat) : Rat :=
  if l.pt then (if x < l.lo then 0 else l.f * (x - l.lo))
  else if x < l.lo then 0 else if x < l.hi then l.f * (x - l.lo) * (x - 1/2 * (l.lo + x)) else l.f * (l.hi - l.lo) * (x - 1/2 * (l.lo + l.hi))
theorem sz_turn {n : Nat} {l : Ld} {x : Rat} (b : l.B n) (hx : sz x ≤ n) : sz (turnQ l x) ≤ 6 * n + 6 := by
  have := b.lo; have := b.hi; have := b.f
  have z0 := sz_0
  have z2 := sz_half
  unfold turnQ
  split
  · split
    · omega
    · have := sz_mul l.f (x - l.lo); have := sz_sub x l.lo; omega
  · split
    · omega
    · split
      · have := sz_mul (l.f * (x - l.lo)) (x - 1/2 * (l.lo + x)); have := sz_mul l.f (x - l.lo); have := sz_sub x l.lo
        have := sz_sub x (1/2 * (l.lo + x)); have := sz_mul (1/2) (l.lo + x); have := sz_add l.lo x
        omega
      · have := sz_mul (l.f * (l.hi - l.lo)) (x - 1/2 * (l.lo + l.hi)); have := sz_mul l.f (l.hi - l.lo); have := sz_sub l.hi l.lo
        have := sz_sub x (1/2 * (l.lo + l.hi)); have := sz_mul (1/2) (l.lo + l.hi); have := sz_add l.lo l.hi
        omega
theorem w_lturning {n : Nat} {l : Ld} {x : Rat} {Q : D → Prop} (b : l.B n) (hx : sz x ≤ n) (hn : n < 500) (q : Q (fr (turnQ l x))) : W__law_turning [.d (ld l), .d (fr x)] Q := by
  have hlo := b.lo; have hhi := b.hi; have hf := b.f
  have z2 := sz_half
  obtain ⟨pt, lo, hi, f⟩ := l
  unfold turnQ at q
  simp only [] at *
  cases pt
  · simp [W__law_turning, B__law_turning, ld]
    refine w_lless (by omega) ?_
    by_cases h1 : x < lo
    · simp [h1] at q ⊢
      exact q
    · simp [h1] at q ⊢
      refine w_lless (by omega) ?_
      by_cases h2 : x < hi
      · simp [h2] at q ⊢
        rw [fr_half]
        have := sz_mul f (x - lo); have := sz_sub x lo; have := sz_mul (1/2) (lo + x); have := sz_add lo x; have := sz_sub x (1/2 * (lo + x))
        refine w_ladd (by omega) (w_lmul (by omega) (w_lsub (by omega) (w_lmul (by omega) (w_lsub (by omega) (w_lmul (by omega) q)))))
      · simp [h2] at q ⊢
        rw [fr_half]
        have := sz_mul f (hi - lo); have := sz_sub hi lo; have := sz_mul (1/2) (lo + hi); have := sz_add lo hi; have := sz_sub x (1/2 * (lo + hi))
        refine w_ladd (by omega) (w_lmul (by omega) (w_lsub (by omega) (w_lmul (by omega) (w_lsub (by omega) (w_lmul (by omega) q)))))
  · simp [W__law_turning, B__law_turning, ld]
    refine w_lless (by omega) ?_
    by_cases h1 : x < lo
    · simp [h1] at q ⊢
      exact q
    · simp [h1] at q ⊢
      have := sz_sub x lo
      exact w_lsub (by omega) (w_lmul (by omega) q)
/-! ### the moment by what stands to the left -/
def supQ (x : Rat) (zs : List (Rat × Rat)) : Rat := tot (zs.map fun p => if x < p.1 then 0 else p.2 * (x - p.1))
def loadQ (x : Rat) (ls : List Ld) : Rat := tot (ls.map fun l => turnQ l x)
def momQ (ss ps : List Rat) (ls : List Ld) (x : Rat) : Rat := supQ x (ss.zip ps) - loadQ x ls
structure MomB (n m : Nat) (ss ps : List Rat) (ls : List Ld) (x : Rat) : Prop where
  hb : ∀ l ∈ ls, l.B n
  hs : ∀ s ∈ ss, sz s ≤ n
  hp : ∀ p ∈ ps, sz p ≤ m
  hx : sz x ≤ n
  he : ss.length = ps.length
  l1 : ss.length * (2 * n + m + 2) + ls.length * (6 * n + 7) < 4000
  l2 : ss.length < 1000
  hn : n < 300
  hm : m < 3000
section
variable {n m : Nat} {ss ps : List Rat} {ls : List Ld} {x : Rat} {Q : D → Prop}
theorem sz_sup1 {p : Rat × Rat} (h1 : sz p.1 ≤ n) (h2 : sz p.2 ≤ m) (hx : sz x ≤ n) : sz (if x < p.1 then 0 else p.2 * (x - p.1)) + 1 ≤ 2 * n + m + 2 := by
  have := sz_mul p.2 (x - p.1); have := sz_sub x p.1; have := sz_0
  split <;> omega
theorem MomB.sup (b : MomB n m ss ps ls x) : sz (supQ x (ss.zip ps)) ≤ ss.length * (2 * n + m + 2) + 1 := by
  have h1 := sz_tot ((ss.zip ps).map fun p => if x < p.1 then 0 else p.2 * (x - p.1))
  have h2 := szs_map_le (as := ss.zip ps) (φ := fun p => if x < p.1 then 0 else p.2 * (x - p.1)) (m := 2 * n + m + 2) fun p hp => sz_sup1 (b.hs _ (List.of_mem_zip hp).1) (b.hp _ (List.of_mem_zip hp).2) b.hx
  have e := b.he
  rw [List.length_zip, show min ss.length ps.length = ss.length by omega] at h2
  unfold supQ; omega
theorem MomB.load (b : MomB n m ss ps ls x) : sz (loadQ x ls) ≤ ls.length * (6 * n + 7) + 1 := by
  have h1 := sz_tot (ls.map fun l => turnQ l x)
  have h2 := szs_map_le (as := ls) (φ := fun l => turnQ l x) (m := 6 * n + 7) fun l hl => by have := sz_turn (b.hb l hl) b.hx; omega
  unfold loadQ; omega
theorem MomB.mom (b : MomB n m ss ps ls x) : sz (momQ ss ps ls x) ≤ ss.length * (2 * n + m + 2) + ls.length * (6 * n + 7) + 3 := by
  have h1 := b.sup; have h2 := b.load
  have := sz_sub (supQ x (ss.zip ps)) (loadQ x ls)
  unfold momQ; omega
theorem tot_take_succ (zs : List Rat) (k : Nat) (hk : k < zs.length) : tot (zs.take (k + 1)) = tot (zs.take k) + zs[k] := by
  rw [List.take_succ_eq_append_getElem hk, tot_append, tot_cons, tot_nil]; grind
theorem sz_tot_take {zs : List Rat} {M : Nat} (h : ∀ z ∈ zs, sz z + 1 ≤ M) (k : Nat) (hk : k ≤ zs.length) : sz (tot (zs.take k)) ≤ 1 + k * M := by
  have h1 := sz_tot (zs.take k)
  have h2 := szs_map_le (as := zs.take k) (φ := id) (m := M) fun z hz => h z (List.mem_of_mem_take hz)
  rw [List.map_id, List.length_take, Nat.min_eq_left hk] at h2
  omega
theorem w_lmoment (b : MomB n m ss ps ls x) (q : Q (fr (momQ ss ps ls x))) : W__law_moment [.d (.list (ss.map fr)), .d (.list (ls.map ld)), .d (.list (ps.map fr)), .d (fr x)] Q := by
  have hn := b.hn; have hm := b.hm; have l1 := b.l1; have l2 := b.l2; have he := b.he; have hx := b.hx
  have hsup := b.sup; have hload := b.load
  have zl : ((ss.zip ps).map fun p => if x < p.1 then 0 else p.2 * (x - p.1)).length = ss.length := by simp; omega
  have zb : ∀ z ∈ ((ss.zip ps).map fun p => if x < p.1 then 0 else p.2 * (x - p.1)), sz z + 1 ≤ 2 * n + m + 2 := fun z hz => by
    obtain ⟨p, hp, rfl⟩ := List.mem_map.mp hz
    exact sz_sup1 (b.hs _ (List.of_mem_zip hp).1) (b.hp _ (List.of_mem_zip hp).2) b.hx
  simp [W__law_moment, B__law_moment]
  refine ⟨by omega, ?_⟩
  refine loopL_range ss.length (fun k e => ∃ s5 s6 : Slot, e = [.d (.list (ss.map fr)), .d (.list (ls.map ld)), .d (.list (ps.map fr)), .d (fr x), .d (fr (tot (((ss.zip ps).map fun p => if x < p.1 then 0 else p.2 * (x - p.1)).take k))), s5, s6]) ?_ ?_ _ ⟨.un, .un, rfl⟩
  · rintro e ⟨s5, s6, rfl⟩
    rw [show ((ss.zip ps).map fun p => if x < p.1 then 0 else p.2 * (x - p.1)).take ss.length = (ss.zip ps).map fun p => if x < p.1 then 0 else p.2 * (x - p.1) from List.take_of_length_le (by omega)]
    simp
    refine loopL_idx (enc := ld) ls (fun k e => ∃ s5 s6 : Slot, e = [.d (.list (ss.map fr)), .d (.list (ls.map ld)), .d (.list (ps.map fr)), .d (fr x), .d (fr (supQ x (ss.zip ps) - tot ((ls.map fun l => turnQ l x).take k))), s5, s6]) ?_ ?_ _ ⟨s5, s6, by rw [List.take_zero, tot_nil]; simp; unfold supQ; grind⟩
    · rintro e ⟨s5, s6, rfl⟩
      rw [show (ls.map fun l => turnQ l x).take ls.length = ls.map fun l => turnQ l x from List.take_of_length_le (by simp)]
      exact q
    · rintro k hk e nx hnx ⟨s5, s6, rfl⟩
      have hkl : k < (ls.map fun l => turnQ l x).length := by simpa using hk
      have hB := b.hb ls[k] (List.getElem_mem _)
      have ht := sz_turn hB hx
      have hl1 : k * (6 * n + 7) ≤ ls.length * (6 * n + 7) := Nat.mul_le_mul_right _ (by omega)
      have h3 := sz_tot_take (zs := ls.map fun l => turnQ l x) (M := 6 * n + 7) (fun z hz => by
        obtain ⟨l, hl, rfl⟩ := List.mem_map.mp hz
        have := sz_turn (b.hb l hl) hx; omega) k (by omega)
      have h4 := sz_sub (supQ x (ss.zip ps)) (tot ((ls.map fun l => turnQ l x).take k))
      simp
      have fin := fun s5 s6 : Slot => hnx _ ⟨s5, s6, rfl⟩
      rw [show supQ x (ss.zip ps) - tot ((ls.map fun l => turnQ l x).take (k + 1)) = supQ x (ss.zip ps) - tot ((ls.map fun l => turnQ l x).take k) - turnQ ls[k] x by rw [tot_take_succ _ k hkl, List.getElem_map]; grind] at fin
      exact w_lturning hB hx (by omega) (w_lsub (by omega) (fin _ _))
  · rintro k hk e nx hnx ⟨s5, s6, rfl⟩
    have hk2 : k < ps.length := by omega
    have g1 : ∀ K : D → Prop, gIx (.list (ss.map fr)) (.int (k : Int)) K = K (fr ss[k]) := fun K => gIxL_n (by rw [List.getElem?_map, List.getElem?_eq_getElem hk]; rfl)
    have g2 : ∀ K : D → Prop, gIx (.list (ps.map fr)) (.int (k : Int)) K = K (fr ps[k]) := fun K => gIxL_n (by rw [List.getElem?_map, List.getElem?_eq_getElem hk2]; rfl)
    have hs := b.hs ss[k] (List.getElem_mem _)
    have hp := b.hp ps[k] (List.getElem_mem _)
    have h3 := sz_tot_take zb k (by omega)
    have hl1 : k * (2 * n + m + 2) ≤ ss.length * (2 * n + m + 2) := Nat.mul_le_mul_right _ (by omega)
    have hts := tot_take_succ ((ss.zip ps).map fun p => if x < p.1 then 0 else p.2 * (x - p.1)) k (by omega)
    simp only [List.getElem_map, List.getElem_zip] at hts
    simp [g1, g2]
    refine w_lless (by omega) ?_
    have fin := fun s5 s6 : Slot => hnx _ ⟨s5, s6, rfl⟩
    rw [hts] at fin
    by_cases h : x < ss[k]
    · simp [h, Rat.add_zero] at fin ⊢
      exact fin _ _
    · simp [h] at fin ⊢
      have := sz_sub x ss[k]; have := sz_mul ps[k] (x - ss[k])
      exact w_lsub (by omega) (w_lmul (by omega) (w_ladd (by omega) (fin _ _)))
end
/-! ### by the pieces -/
theorem pv3 (x : Rat) (t : V3) : pv x [t.a, t.b, t.c] = t.a + t.b * x + t.c * (x * x) := by
  show ((0 * x + t.c) * x + t.b) * x + t.a = _
  grind
def V3.at (x : Rat) (t : V3) : Rat := t.a + t.b * x + t.c * (x * x)
theorem at_add (x : Rat) (s t : V3) : (s.add t).at x = s.at x + t.at x := by simp only [V3.at, V3.add]; grind
theorem at_mo (x f p : Rat) : (mo f p).at x = f * (x - p) := by simp only [V3.at, mo]; grind
theorem at_zero (x : Rat) : V3.zero.at x = 0 := by simp only [V3.at, V3.zero]; grind
/-- a load's part of a piece that begins at a, at a place x of it: no break of the load lies between -/
theorem at_lm {l : Ld} {a x : Rat} (hle : l.pt = false → l.lo ≤ l.hi) (h : a ≤ x) (hb : ∀ z ∈ l.cuts, z ≤ a ∨ x ≤ z) : (lm l a).at x = - turnQ l x := by
  obtain ⟨pt, lo, hi, f⟩ := l
  cases pt
  · have h1 := hb lo (by simp [Ld.cuts])
    have h2 := hb hi (by simp [Ld.cuts])
    have hle := hle rfl
    simp only [lm, sm, turnQ, Ld.w, Ld.m] at *
    simp only [Bool.false_eq_true, if_false]
    by_cases c1 : a < lo
    · rw [if_pos c1, at_zero]
      by_cases c2 : x < lo
      · rw [if_pos c2]; grind
      · rw [if_neg c2]
        have : x = lo := by grind
        subst this
        split <;> grind
    · rw [if_neg c1]
      have c2 : ¬ x < lo := by grind
      rw [if_neg c2]
      by_cases c3 : a < hi
      · rw [if_pos c3]
        simp only [V3.at]
        by_cases c4 : x < hi
        · rw [if_pos c4]; grind
        · rw [if_neg c4]
          have : x = hi := by grind
          subst this
          grind
      · rw [if_neg c3, at_mo]
        by_cases c4 : x < hi
        · have : False := by grind
          exact this.elim
        · rw [if_neg c4]; grind
  · have h1 := hb lo (by simp [Ld.cuts])
    simp only [lm, turnQ] at *
    simp only [if_true]
    by_cases c1 : a < lo
    · rw [if_pos c1, at_zero]
      by_cases c2 : x < lo
      · rw [if_pos c2]; grind
      · rw [if_neg c2]
        have : x = lo := by grind
        subst this
        grind
    · rw [if_neg c1, at_mo, if_neg (by grind)]
      grind
theorem at_sup {a x : Rat} (h : a ≤ x) : ∀ (zs : List (Rat × Rat)) (t : V3), (∀ p ∈ zs, p.1 ≤ a ∨ x ≤ p.1) → (zs.foldl (fun t p => if a < p.1 then t else t.add (mo p.2 p.1)) t).at x = t.at x + supQ x zs
  | [], t, _ => by show t.at x = t.at x + 0; grind
  | p :: zs, t, hz => by
    rw [List.foldl_cons, at_sup h zs _ fun q hq => hz q (by simp [hq])]
    have h1 := hz p (by simp)
    have e : supQ x (p :: zs) = (if x < p.1 then 0 else p.2 * (x - p.1)) + supQ x zs := by unfold supQ; rw [List.map_cons, tot_cons]
    rw [e]
    by_cases c1 : a < p.1
    · rw [if_pos c1]
      by_cases c2 : x < p.1
      · rw [if_pos c2]; grind
      · rw [if_neg c2]
        have : x = p.1 := by grind
        rw [← this]; grind
    · rw [if_neg c1, at_add, at_mo, if_neg (by grind)]; grind
theorem at_lms {a x : Rat} (h : a ≤ x) : ∀ (ls : List Ld) (t : V3), (∀ l ∈ ls, l.pt = false → l.lo ≤ l.hi) → (∀ l ∈ ls, ∀ z ∈ l.cuts, z ≤ a ∨ x ≤ z) → (ls.foldl (fun t l => t.add (lm l a)) t).at x = t.at x - loadQ x ls
  | [], t, _, _ => by show t.at x = t.at x - 0; grind
  | l :: ls, t, hl, hz => by
    rw [List.foldl_cons, at_lms h ls _ (fun q hq => hl q (by simp [hq])) fun q hq => hz q (by simp [hq])]
    have e : loadQ x (l :: ls) = turnQ l x + loadQ x ls := by unfold loadQ; rw [List.map_cons, tot_cons]
    rw [e, at_add, at_lm (hl l (by simp)) h (hz l (by simp))]; grind
theorem at_pcs {L a x : Rat} {ss ps : List Rat} {ls : List Ld} (hl : ∀ l ∈ ls, l.pt = false → l.lo ≤ l.hi) (h : a ≤ x) (hz : ∀ z ∈ cuts L ss ls, z ≤ a ∨ x ≤ z) : (pcs ss ps ls a).at x = momQ ss ps ls x := by
  unfold pcs sup
  rw [at_lms h ls _ hl, at_sup h _ _, at_zero]
  · unfold momQ; grind
  · intro p hp
    exact hz p.1 (by unfold cuts; simp [(List.of_mem_zip hp).1])
  · intro l hl z hzz
    refine hz z ?_
    unfold cuts
    rw [List.mem_append]
    exact .inr (List.mem_flatten.mpr ⟨_, List.mem_map.mpr ⟨l, hl, rfl⟩, hzz⟩)
/-- the pieces' list -/
def pcD (L : Rat) (ss ps : List Rat) (ls : List Ld) : D := .list (((ordQ (cuts L ss ls)).zip (ordQ (cuts L ss ls)).tail).map fun p => .tuple [fr p.1, fr p.2, v3 (pcs ss ps ls p.1)])
/-- between neighbours of an ordered list there is none of it -/
theorem srt_next {pl : List Rat} (h : Srt pl) {k : Nat} (hk : k + 1 < pl.length) : ∀ z ∈ pl, z ≤ pl[k] ∨ pl[k + 1] ≤ z := by
  intro z hz
  obtain ⟨i, hi, rfl⟩ := List.getElem_of_mem hz
  rcases Nat.lt_trichotomy i k with c | c | c
  · have := List.pairwise_iff_getElem.mp h i k hi (by omega) c
    exact .inl (Rat.le_of_lt this)
  · subst c; exact .inl Rat.le_refl
  · rcases Nat.lt_or_ge (k + 1) i with d | d
    · have := List.pairwise_iff_getElem.mp h (k + 1) i hk hi d
      exact .inr (Rat.le_of_lt this)
    · have : i = k + 1 := by omega
      subst this; exact .inr Rat.le_refl
structure AtB (n m j : Nat) (L : Rat) (ss ps : List Rat) (ls : List Ld) (x : Rat) : Prop where
  pc : PcB n m j L ss ps ls
  hl : ∀ l ∈ ls, l.pt = false → l.lo ≤ l.hi
  h0 : ∀ z ∈ cuts L ss ls, 0 ≤ z
  hL : ∀ z ∈ cuts L ss ls, z ≤ L
  L0 : 0 < L
  x0 : 0 ≤ x
  xL : x ≤ L
  sx : sz x ≤ n
  sv : 3 * (n + (ss.length * (n + m + 3) + ls.length * (5 * j + 9) + 1) + 1) < 8500
theorem w_moment_at {n m j : Nat} {L : Rat} {ss ps : List Rat} {ls : List Ld} {x : Rat} {Q : D → Prop} (b : AtB n m j L ss ps ls x) (q : Q (fr (momQ ss ps ls x))) : W_moment_at [.d (pcD L ss ps ls), .d (fr x)] Q := by
  have hB := fun a => b.pc.B a
  have srt := ord_srt (cuts L ss ls)
  have mem : ∀ z, z ∈ ordQ (cuts L ss ls) ↔ z ∈ cuts L ss ls := fun z => ord_mem
  have hsz : ∀ z ∈ ordQ (cuts L ss ls), sz z ≤ n := fun z hz => b.pc.cut.mem ((mem z).mp hz)
  have sx := b.sx; have sv := b.sv; have hn := b.pc.cut.hn
  have m0 : (0 : Rat) ∈ ordQ (cuts L ss ls) := (mem 0).mpr (by simp [cuts])
  have mL : L ∈ ordQ (cuts L ss ls) := (mem L).mpr (by simp [cuts])
  unfold pcD
  generalize hpl : ordQ (cuts L ss ls) = pl at srt mem hsz m0 mL
  simp [W_moment_at, B_moment_at]
  refine loopL_idx (enc := fun p : Rat × Rat => .tuple [fr p.1, fr p.2, v3 (pcs ss ps ls p.1)]) (pl.zip pl.tail) (fun k e => ∃ s2 s3 s4 : Slot, e = [.d (.list ((pl.zip pl.tail).map fun p => .tuple [fr p.1, fr p.2, v3 (pcs ss ps ls p.1)])), .d (fr x), s2, s3, s4] ∧ ∀ i, i < k → ∀ (h : i + 1 < pl.length), pl[i + 1] < x) ?_ ?_ _ ⟨.un, .un, .un, rfl, fun i hi => by omega⟩
  · rintro e ⟨s2, s3, s4, rfl, hp⟩
    exfalso
    obtain ⟨i, hi, e⟩ := List.getElem_of_mem mL
    obtain ⟨i0, hi0, e0⟩ := List.getElem_of_mem m0
    have hne : i ≠ 0 := fun e' => by
      subst e'
      have L0 := b.L0
      rcases Nat.eq_zero_or_pos i0 with c | c
      · subst c; rw [e] at e0; grind
      · have := List.pairwise_iff_getElem.mp srt 0 i0 hi hi0 c
        rw [e, e0] at this; grind
    have hi2 : i - 1 + 1 < pl.length := by omega
    have := hp (i - 1) (by simp; omega) hi2
    simp only [show i - 1 + 1 = i by omega] at this
    rw [e] at this
    have := b.xL
    grind
  · rintro k hk e nx hnx ⟨s2, s3, s4, rfl, hp⟩
    have hk1 : k + 1 < pl.length := by simp at hk; omega
    have ez : (pl.zip pl.tail)[k] = (pl[k], pl[k + 1]) := by simp
    rw [ez]
    have s1 := hsz pl[k] (List.getElem_mem _)
    have s2' := hsz pl[k + 1] (List.getElem_mem _)
    simp
    refine w_less (by omega) ?_
    by_cases h : pl[k + 1] < x
    · simp [h]
      refine hnx _ ⟨_, _, _, rfl, fun i hi hi2 => ?_⟩
      rcases Nat.lt_or_ge i k with c | c
      · exact hp i c hi2
      · have : i = k := by omega
        subst this; exact h
    · simp [h]
      have hax : pl[k] ≤ x := by
        rcases Nat.eq_zero_or_pos k with c | c
        · subst c
          obtain ⟨i0, hi0, e0⟩ := List.getElem_of_mem m0
          have x0 := b.x0
          rcases Nat.eq_zero_or_pos i0 with c | c
          · subst c; rw [e0]; exact x0
          · have := List.pairwise_iff_getElem.mp srt 0 i0 (by omega) hi0 c
            rw [e0] at this; grind
        · have := hp (k - 1) (by omega) (by omega)
          simp only [show k - 1 + 1 = k by omega] at this
          exact Rat.le_of_lt this
      have hxb : x ≤ pl[k + 1] := by grind
      have key := at_pcs (L := L) (ss := ss) (ps := ps) (ls := ls) b.hl hax fun z hz => by
        rcases srt_next srt hk1 z ((mem z).mpr hz) with c | c
        · exact .inl c
        · exact .inr (by grind)
      have hB := hB pl[k]
      have ha := hB.a; have hb := hB.b; have hc := hB.c
      have : v3 (pcs ss ps ls pl[k]) = .list ([(pcs ss ps ls pl[k]).a, (pcs ss ps ls pl[k]).b, (pcs ss ps ls pl[k]).c].map fr) := rfl
      rw [this]
      refine w_value_at (s := ss.length * (n + m + 3) + ls.length * (5 * j + 9) + 1) ⟨fun c hc => ?_, ?_⟩ ?_
      · simp at hc
        rcases hc with rfl | rfl | rfl <;> assumption
      · show 3 * _ < 8500
        omega
      · rw [pv3]
        have key : (pcs ss ps ls pl[k]).a + (pcs ss ps ls pl[k]).b * x + (pcs ss ps ls pl[k]).c * (x * x) = momQ ss ps ls x := key
        rw [key]
        exact q
/-! ### sums and mirrors of moments -/
theorem loadQ_append (x : Rat) (xs ys : List Ld) : loadQ x (xs ++ ys) = loadQ x xs + loadQ x ys := by unfold loadQ; rw [List.map_append, tot_append]
theorem wsum_append (xs ys : List Ld) : wsum (xs ++ ys) = wsum xs + wsum ys := by unfold wsum; rw [List.map_append, tot_append]
theorem right_append (a : Rat) (xs ys : List Ld) : right a (xs ++ ys) = right a xs + right a ys := by unfold right; rw [List.map_append, tot_append]
theorem push2_append (a b : Rat) (xs ys : List Ld) : push2 a b (xs ++ ys) = push2 a b xs + push2 a b ys := by
  unfold push2; rw [right_append, Rat.div_def, Rat.div_def, Rat.div_def, Rat.add_mul]
theorem push1_append (a b : Rat) (xs ys : List Ld) : push1 a b (xs ++ ys) = push1 a b xs + push1 a b ys := by
  unfold push1; rw [wsum_append, push2_append]; grind
theorem supQ2 (x a b p q : Rat) : supQ x ([a, b].zip [p, q]) = (if x < a then 0 else p * (x - a)) + (if x < b then 0 else q * (x - b)) := by
  simp only [supQ, List.zip_cons_cons, List.zip_nil_right, List.map_cons, List.map_nil, tot2]
theorem mom_append (x a b : Rat) (xs ys : List Ld) :
    momQ [a, b] [push1 a b (xs ++ ys), push2 a b (xs ++ ys)] (xs ++ ys) x = momQ [a, b] [push1 a b xs, push2 a b xs] xs x + momQ [a, b] [push1 a b ys, push2 a b ys] ys x := by
  unfold momQ
  rw [supQ2, supQ2, supQ2, loadQ_append, push1_append, push2_append]
  split <;> split <;> grind
def mirL (L : Rat) (l : Ld) : Ld := if l.pt then ⟨true, L - l.lo, L - l.lo, l.f⟩ else ⟨false, L - l.hi, L - l.lo, l.f⟩
theorem turn_mir (L x : Rat) (l : Ld) (h : l.pt = false → l.lo ≤ l.hi) : turnQ l x - turnQ (mirL L l) (L - x) = l.w * (x - l.m) := by
  obtain ⟨pt, lo, hi, f⟩ := l
  cases pt
  · have h := h rfl
    simp only [turnQ, mirL, Ld.w, Ld.m, Bool.false_eq_true, if_false] at *
    by_cases c1 : x < lo
    · have c2 : ¬ L - x < L - hi := by grind
      rw [if_pos c1, if_neg c2]
      by_cases c3 : L - x < L - lo
      · have : False := by grind
        exact this.elim
      · rw [if_neg c3]; grind
    · rw [if_neg c1]
      by_cases c2 : x < hi
      · rw [if_pos c2]
        have c3 : ¬ L - x < L - hi := by grind
        rw [if_neg c3]
        by_cases c4 : L - x < L - lo
        · rw [if_pos c4]; grind
        · rw [if_neg c4]
          have : x = lo := by grind
          subst this; grind
      · rw [if_neg c2]
        by_cases c3 : L - x < L - hi
        · rw [if_pos c3]; grind
        · rw [if_neg c3]
          have : x = hi := by grind
          subst this
          by_cases c4 : L - x < L - lo
          · rw [if_pos c4]; grind
          · rw [if_neg c4]
            have : x = lo := by grind
            subst this; grind
  · simp only [turnQ, mirL, Ld.w, Ld.m, if_true]
    by_cases c1 : x < lo
    · rw [if_pos c1, if_neg (by grind)]; grind
    · rw [if_neg c1]
      by_cases c2 : L - x < L - lo
      · rw [if_pos c2]; grind
      · rw [if_neg c2]
        have : x = lo := by grind
        subst this; grind
theorem mir_w (L : Rat) (l : Ld) : (mirL L l).w = l.w := by
  obtain ⟨pt, lo, hi, f⟩ := l
  cases pt <;> simp only [mirL, Ld.w, if_true, Bool.false_eq_true, if_false]
  grind
theorem mir_m (L : Rat) (l : Ld) : (mirL L l).m = L - l.m := by
  obtain ⟨pt, lo, hi, f⟩ := l
  cases pt <;> simp only [mirL, Ld.m, if_true, Bool.false_eq_true, if_false]
  grind
theorem load_mir (L x : Rat) : ∀ ls : List Ld, (∀ l ∈ ls, l.pt = false → l.lo ≤ l.hi) → loadQ x ls - loadQ (L - x) (ls.map (mirL L)) = x * wsum ls - msum ls
  | [], _ => by show (0 : Rat) - 0 = x * 0 - 0; grind
  | l :: ls, h => by
    have ih := load_mir L x ls fun q hq => h q (by simp [hq])
    have t := turn_mir L x l (h l (by simp))
    have e1 : loadQ x (l :: ls) = turnQ l x + loadQ x ls := by unfold loadQ; rw [List.map_cons, tot_cons]
    have e2 : loadQ (L - x) ((l :: ls).map (mirL L)) = turnQ (mirL L l) (L - x) + loadQ (L - x) (ls.map (mirL L)) := by unfold loadQ; rw [List.map_cons, List.map_cons, tot_cons]
    have e3 : wsum (l :: ls) = l.w + wsum ls := by unfold wsum; rw [List.map_cons, tot_cons]
    have e4 : msum (l :: ls) = l.w * l.m + msum ls := by unfold msum; rw [List.map_cons, tot_cons]
    rw [e1, e2, e3, e4]; grind
theorem wsum_mir (L : Rat) (ls : List Ld) : wsum (ls.map (mirL L)) = wsum ls := by
  unfold wsum; rw [List.map_map]; congr 1
  exact List.map_congr_left fun l _ => mir_w L l
theorem right_mir (L b : Rat) : ∀ ls : List Ld, right (L - b) (ls.map (mirL L)) = b * wsum ls - msum ls
  | [] => by show (0 : Rat) = b * 0 - 0; grind
  | l :: ls => by
    have ih := right_mir L b ls
    have e2 : right (L - b) ((l :: ls).map (mirL L)) = (mirL L l).w * ((mirL L l).m - (L - b)) + right (L - b) (ls.map (mirL L)) := by unfold right; rw [List.map_cons, List.map_cons, tot_cons]
    have e3 : wsum (l :: ls) = l.w + wsum ls := by unfold wsum; rw [List.map_cons, tot_cons]
    have e4 : msum (l :: ls) = l.w * l.m + msum ls := by unfold msum; rw [List.map_cons, tot_cons]
    rw [e2, e3, e4, mir_w, mir_m]; grind
theorem push2_mir (L : Rat) {a b : Rat} (ls : List Ld) (h : a ≠ b) : push2 (L - b) (L - a) (ls.map (mirL L)) = push1 a b ls := by
  have e1 : right a ls = msum ls - a * wsum ls := tot_lin ls a
  have hne : b - a ≠ 0 := fun e => h (by grind)
  unfold push1 push2
  rw [right_mir, e1, show L - a - (L - b) = b - a by grind]
  have : wsum ls = wsum ls * (b - a) / (b - a) := (Rat.mul_div_cancel hne).symm
  grind
theorem push1_mir (L : Rat) {a b : Rat} (ls : List Ld) (h : a ≠ b) : push1 (L - b) (L - a) (ls.map (mirL L)) = push2 a b ls := by
  have := push2_mir L ls h
  unfold push1 at *
  rw [wsum_mir, this]; grind
theorem mom_mir (L x : Rat) {a b : Rat} (ls : List Ld) (h : a ≠ b) (hl : ∀ l ∈ ls, l.pt = false → l.lo ≤ l.hi) :
    momQ [L - b, L - a] [push1 (L - b) (L - a) (ls.map (mirL L)), push2 (L - b) (L - a) (ls.map (mirL L))] (ls.map (mirL L)) (L - x) = momQ [a, b] [push1 a b ls, push2 a b ls] ls x := by
  have lm := load_mir L x ls hl
  have e1 : right a ls = msum ls - a * wsum ls := tot_lin ls a
  have e2 : push2 a b ls * (b - a) = right a ls := by
    unfold push2
    rw [Rat.div_mul_cancel]
    intro e; exact h (by grind)
  have e3 : push1 a b ls = wsum ls - push2 a b ls := rfl
  unfold momQ
  rw [supQ2, supQ2, push1_mir L ls h, push2_mir L ls h]
  have s1 : (if L - x < L - b then 0 else push2 a b ls * (L - x - (L - b))) = (if x < b then push2 a b ls * (b - x) else 0) := by
    by_cases c : x < b
    · rw [if_pos c, if_neg (by grind)]; grind
    · rw [if_neg c]
      by_cases d : L - x < L - b
      · rw [if_pos d]
      · rw [if_neg d]
        have : x = b := by grind
        subst this; grind
  have s2 : (if L - x < L - a then 0 else push1 a b ls * (L - x - (L - a))) = (if x < a then push1 a b ls * (a - x) else 0) := by
    by_cases c : x < a
    · rw [if_pos c, if_neg (by grind)]; grind
    · rw [if_neg c]
      by_cases d : L - x < L - a
      · rw [if_pos d]
      · rw [if_neg d]
        have : x = a := by grind
        subst this; grind
  rw [s1, s2]
  generalize push1 a b ls = p at *
  generalize push2 a b ls = q at *
  split <;> split <;> grind
end TW

set_option Elab.async false
set_option linter.all false
set_option maxRecDepth 100000
set_option maxHeartbeats 400000
set_option exponentiation.threshold 10000
/-! KBm: a beam on two supports with its loads, all its facts in one. -/
namespace TW
open PySem DL
theorem w_lpartJ {L : Rat} {k j : Nat} {Q : D → Prop} (hk : 0 < k) (hk2 : k < 2 ^ j) (hj : j ≤ 30) (hL : 0 ≤ L) (hs : sz L < 100) (h : ∀ x : Rat, 0 ≤ x → x ≤ L → sz x ≤ sz L + j → Q (fr x)) : W__law_part [.pool, .d (fr L), .d (.int k)] Q := by
  have h30 : 2 ^ j ≤ 2 ^ 30 := Nat.pow_le_pow_right (by decide) hj
  simp [W__law_part, B__law_part, fr]
  refine w_draw (by omega) (by omega) fun d hd => ?_
  simp
  have hden := L.den_pos
  refine ⟨.inr (.inr (by omega)), .inr (.inr (by omega)), ?_⟩
  have b1 : (L.num * (d : Int)).natAbs < 2 ^ (sz L + j) := natAbs_mul_lt (num_lt L) (by omega)
  have b2 : ((L.den : Int) * (k : Int)).natAbs < 2 ^ (sz L + j) := natAbs_mul_lt (den_abs L) (by omega)
  have hne : (L.den : Int) * (k : Int) ≠ 0 := Int.mul_ne_zero (by omega) (by omega)
  refine w_lratio (k := sz L + j) hne b1 b2 (by omega) ?_
  have hkr : (0 : Rat) < ((k : Int) : Rat) := by rw [← Rat.intCast_zero, Rat.intCast_lt_intCast]; omega
  have hdr : (0 : Rat) ≤ ((d : Int) : Rat) := by rw [← Rat.intCast_zero, Rat.intCast_le_intCast]; omega
  have hdk : ((d : Int) : Rat) ≤ ((k : Int) : Rat) := by rw [Rat.intCast_le_intCast]; omega
  have q0 : 0 ≤ ((d : Int) : Rat) / ((k : Int) : Rat) := by
    rw [Rat.div_def]; exact Rat.mul_nonneg hdr (Rat.le_of_lt (Rat.inv_pos.mpr hkr))
  have q1 : ((d : Int) : Rat) / ((k : Int) : Rat) ≤ 1 := by
    rcases Rat.le_iff_lt_or_eq.mp hdk with hlt | heq
    · exact Rat.le_of_lt ((Rat.div_lt_iff hkr).mpr (by rw [Rat.one_mul]; exact hlt))
    · rw [heq]; grind
  refine h _ ?_ ?_ (sz_divInt hne b1 b2)
  · rw [part_eq L d k (by omega)]; exact Rat.mul_nonneg hL q0
  · rw [part_eq L d k (by omega)]
    have := Rat.mul_le_mul_of_nonneg_left q1 hL
    rw [Rat.mul_one] at this; exact this
structure Num (n j c m : Nat) : Prop where
  h1 : c * (8 * j + n + 8) + 2 * n + 4 ≤ m
  h2 : 3 * (n + (2 * (n + m + 3) + c * (5 * j + 9) + 1) + 1) < 8500
  h3 : n < 140
  h4 : j ≤ n
  h5 : c < 100
  h6 : m < 3000
  h7 : 1 ≤ n
structure Bm (n j c : Nat) (L a b : Rat) (ls : List Ld) : Prop where
  L0 : 0 < L
  sL : sz L ≤ n
  sa : sz a ≤ n
  sb : sz b ≤ n
  ab : a < b
  a0 : 0 ≤ a
  bL : b ≤ L
  lb : ∀ l ∈ ls, l.B j
  l0 : ∀ l ∈ ls, 0 ≤ l.lo ∧ l.lo ≤ L
  h0 : ∀ l ∈ ls, l.pt = false → l.lo ≤ l.hi ∧ l.hi ≤ L
  len : ls.length ≤ c
abbrev pp2 (a b : Rat) (ls : List Ld) : List Rat := [push1 a b ls, push2 a b ls]
section
variable {n j c m : Nat} {L a b x : Rat} {ls : List Ld} {Q : D → Prop}
theorem Bm.ne (h : Bm n j c L a b ls) : a ≠ b := by have := h.ab; grind
theorem Bm.lbn (h : Bm n j c L a b ls) (N : Num n j c m) : ∀ l ∈ ls, l.B n := fun l hl => by
  have q := h.lb l hl
  have := N.h4
  exact ⟨Nat.le_trans q.lo this, Nat.le_trans q.hi this, Nat.le_trans q.f this⟩
theorem Bm.p1 (h : Bm n j c L a b ls) (N : Num n j c m) : sz (push1 a b ls) ≤ m := by
  have h1 := sz_push1 h.lb h.sa h.sb h.ne
  have := N.h1
  have := Nat.mul_le_mul_right (8 * j + n + 8) h.len
  omega
theorem Bm.p2 (h : Bm n j c L a b ls) (N : Num n j c m) : sz (push2 a b ls) ≤ m := by
  have h1 := sz_push2 h.lb h.sa h.sb h.ne
  have := N.h1
  have := Nat.mul_le_mul_right (5 * j + n + 6) h.len
  have : c * (5 * j + n + 6) ≤ c * (8 * j + n + 8) := Nat.mul_le_mul_left _ (by omega)
  omega
theorem Bm.pps (h : Bm n j c L a b ls) (N : Num n j c m) : ∀ p ∈ pp2 a b ls, sz p ≤ m := fun p hp => by
  simp at hp
  rcases hp with rfl | rfl
  · exact h.p1 N
  · exact h.p2 N
theorem Bm.cut (h : Bm n j c L a b ls) (N : Num n j c m) : CutB n L [a, b] ls := ⟨h.lbn N, fun s hs => by simp at hs; rcases hs with rfl | rfl; exact h.sa; exact h.sb, h.sL, by have := N.h3; omega, N.h7, by simp, by have := h.len; have := N.h5; omega⟩
theorem Bm.two (h : Bm n j c L a b ls) (N : Num n j c m) (X : D) (q : Q (.list ((pp2 a b ls).map fr))) : W_two_pushes [.d X, .d (.list ([a, b].map fr)), .d (.list (ls.map ld))] Q := by
  have := N.h1; have := N.h6; have := N.h3; have := N.h5; have := h.len; have := N.h4
  have := Nat.mul_le_mul_right (8 * j + n + 8) h.len
  exact w_two X h.lb h.sa h.sb h.ne (by omega) (by omega) (by omega) q
theorem Bm.pc (h : Bm n j c L a b ls) (N : Num n j c m) : PcB n m j L [a, b] (pp2 a b ls) ls := ⟨h.cut N, h.lb, h.pps N, rfl, by
  have := N.h2; have := Nat.mul_le_mul_right (5 * j + 9) h.len
  show 2 * _ + _ < _
  omega, N.h6⟩
theorem Bm.pieces (h : Bm n j c L a b ls) (N : Num n j c m) (q : Q (pcD L [a, b] (pp2 a b ls) ls)) : W_pieces [.d (fr L), .d (.list ([a, b].map fr)), .d (.list (ls.map ld)), .d (.list ((pp2 a b ls).map fr))] Q := w_pieces (h.pc N) q
theorem Bm.cuts (h : Bm n j c L a b ls) : ∀ z ∈ cuts L [a, b] ls, 0 ≤ z ∧ z ≤ L := fun z hz => by
  have := h.L0; have := h.ab; have := h.a0; have := h.bL
  unfold TW.cuts at hz
  rw [List.mem_append, List.mem_append] at hz
  rcases hz with (hz | hz) | hz
  · simp at hz; rcases hz with rfl | rfl <;> constructor <;> grind
  · simp at hz; rcases hz with rfl | rfl <;> constructor <;> grind
  · obtain ⟨u, hu, hz⟩ := List.mem_flatten.mp hz
    obtain ⟨l, hl, rfl⟩ := List.mem_map.mp hu
    have q1 := h.l0 l hl
    have q2 := h.h0 l hl
    unfold Ld.cuts at hz
    split at hz
    · simp at hz; subst hz; exact q1
    · rename_i hp
      have q2 := q2 (by simpa using hp)
      simp at hz
      rcases hz with rfl | rfl
      · exact q1
      · exact ⟨by grind, q2.2⟩
theorem Bm.at (h : Bm n j c L a b ls) (N : Num n j c m) (x0 : 0 ≤ x) (xL : x ≤ L) (sx : sz x ≤ n) : AtB n m j L [a, b] (pp2 a b ls) ls x :=
  ⟨h.pc N, fun l hl hp => (h.h0 l hl hp).1, fun z hz => (h.cuts z hz).1, fun z hz => (h.cuts z hz).2, h.L0, x0, xL, sx, by
    have := N.h2; have := Nat.mul_le_mul_right (5 * j + 9) h.len
    show 3 * (n + (2 * _ + _ + 1) + 1) < _
    omega⟩
theorem Bm.mom (h : Bm n j c L a b ls) (N : Num n j c m) (hx : sz x ≤ 2 * n + 3) (hm : 2 * (2 * (2 * n + 3) + m + 2) + c * (6 * (2 * n + 3) + 7) < 4000) : MomB (2 * n + 3) m [a, b] (pp2 a b ls) ls x :=
  ⟨fun l hl => by have q := h.lb l hl; have := N.h4; exact ⟨by have := q.lo; omega, by have := q.hi; omega, by have := q.f; omega⟩, fun s hs => by
    have := h.sa; have := h.sb
    simp at hs; rcases hs with rfl | rfl <;> omega, h.pps N, hx, rfl, by
    have := Nat.mul_le_mul_right (6 * (2 * n + 3) + 7) h.len
    show 2 * _ + _ < _
    omega, by simp, by have := N.h3; omega, N.h6⟩
theorem turn_0 {l : Ld} (h : 0 ≤ l.lo) (h2 : l.pt = false → l.lo ≤ l.hi) : turnQ l 0 = 0 := by
  obtain ⟨pt, lo, hi, f⟩ := l
  cases pt
  · have h2 := h2 rfl
    simp only [turnQ, Bool.false_eq_true, if_false] at *
    by_cases c1 : 0 < lo
    · rw [if_pos c1]
    · rw [if_neg c1]
      have : lo = 0 := by grind
      subst this
      by_cases c2 : 0 < hi
      · rw [if_pos c2]; grind
      · rw [if_neg c2]
        have : hi = 0 := by grind
        subst this; grind
  · simp only [turnQ, if_true] at *
    by_cases c1 : 0 < lo
    · rw [if_pos c1]
    · rw [if_neg c1]
      have : lo = 0 := by grind
      subst this; grind
theorem load_0 : ∀ {ls : List Ld}, (∀ l ∈ ls, 0 ≤ l.lo) → (∀ l ∈ ls, l.pt = false → l.lo ≤ l.hi) → loadQ 0 ls = 0
  | [], _, _ => rfl
  | l :: ls, h, h2 => by
    have e1 : loadQ 0 (l :: ls) = turnQ l 0 + loadQ 0 ls := by unfold loadQ; rw [List.map_cons, tot_cons]
    rw [e1, turn_0 (h l (by simp)) (h2 l (by simp)), load_0 (fun q hq => h q (by simp [hq])) (fun q hq => h2 q (by simp [hq]))]; grind
theorem mom_0 {p q : Rat} (ha : 0 ≤ a) (hb : 0 ≤ b) (h : ∀ l ∈ ls, 0 ≤ l.lo) (h2 : ∀ l ∈ ls, l.pt = false → l.lo ≤ l.hi) : momQ [a, b] [p, q] ls 0 = 0 := by
  unfold momQ
  rw [supQ2, load_0 h h2]
  by_cases c1 : 0 < a
  · rw [if_pos c1]
    by_cases c2 : 0 < b
    · rw [if_pos c2]; grind
    · rw [if_neg c2]
      have : b = 0 := by grind
      subst this; grind
  · rw [if_neg c1]
    have : a = 0 := by grind
    subst this
    by_cases c2 : 0 < b
    · rw [if_pos c2]; grind
    · rw [if_neg c2]
      have : b = 0 := by grind
      subst this; grind
theorem Bm.m0 (h : Bm n j c L a b ls) : momQ [a, b] (pp2 a b ls) ls 0 = 0 := mom_0 h.a0 (by have := h.a0; have := h.ab; grind) (fun l hl => (h.l0 l hl).1) (fun l hl hp => (h.h0 l hl hp).1)
theorem Bm.mL (h : Bm n j c L a b ls) : momQ [a, b] (pp2 a b ls) ls L = 0 := by
  have e := mom_mir L L ls h.ne fun l hl hp => (h.h0 l hl hp).1
  rw [← e, show L - L = (0 : Rat) by grind]
  have := h.a0; have := h.ab; have := h.bL
  refine mom_0 (by grind) (by grind) (fun l hl => ?_) (fun l hl hp => ?_)
  · obtain ⟨r, hr, rfl⟩ := List.mem_map.mp hl
    have q1 := h.l0 r hr
    have q2 := h.h0 r hr
    unfold mirL
    split
    · show 0 ≤ L - r.lo; grind
    · rename_i hp
      have q2 := q2 (by simpa using hp)
      show 0 ≤ L - r.hi; grind
  · obtain ⟨r, hr, rfl⟩ := List.mem_map.mp hl
    have q2 := h.h0 r hr
    unfold mirL at hp ⊢
    by_cases hr : r.pt = true
    · rw [if_pos hr] at hp; cases hp
    · rw [if_neg hr] at hp ⊢
      have q2 := q2 (by simpa using hr)
      show L - r.hi ≤ L - r.lo; grind
end
theorem Bm.piece {n j c : Nat} {L a b : Rat} {ls : List Ld} (h : Bm n j c L a b ls) {p : Rat × Rat} (hp : p ∈ (ordQ (TW.cuts L [a, b] ls)).zip (ordQ (TW.cuts L [a, b] ls)).tail) :
    p.1 ∈ TW.cuts L [a, b] ls ∧ p.2 ∈ TW.cuts L [a, b] ls ∧ p.1 < p.2 ∧ ∀ x, p.1 ≤ x → x ≤ p.2 → (pcs [a, b] (pp2 a b ls) ls p.1).at x = momQ [a, b] (pp2 a b ls) ls x := by
  have srt := ord_srt (TW.cuts L [a, b] ls)
  have mem : ∀ z, z ∈ ordQ (TW.cuts L [a, b] ls) ↔ z ∈ TW.cuts L [a, b] ls := fun z => ord_mem
  generalize ordQ (TW.cuts L [a, b] ls) = pl at *
  obtain ⟨k, hk, rfl⟩ := List.getElem_of_mem hp
  have hk1 : k + 1 < pl.length := by simp at hk; omega
  have ez : (pl.zip pl.tail)[k] = (pl[k], pl[k + 1]) := by simp
  rw [ez]
  refine ⟨(mem _).mp (List.getElem_mem _), (mem _).mp (List.getElem_mem _), List.pairwise_iff_getElem.mp srt k (k + 1) (by omega) hk1 (by omega), fun x h1 h2 => ?_⟩
  simp only [] at h1 h2 ⊢
  refine at_pcs (L := L) (fun l hl hp => (h.h0 l hl hp).1) h1 fun z hz => ?_
  rcases srt_next srt hk1 z ((mem z).mpr hz) with c | c
  · exact .inl c
  · exact .inr (by grind)
theorem v3_fr (t : V3) : v3 t = .list ([t.a, t.b, t.c].map fr) := rfl
theorem eqD_fr_self (a : Rat) : eqD (fr a) (fr a) = true := by rw [eqD_fr]; simp
end TW

set_option Elab.async false
set_option linter.all false
set_option maxRecDepth 100000
/-! SHinge: printed by gen.py: the semantics of defs over data. -/
namespace TW
open PySem DL
def B_hinged : FS := (sSeq (sAsg (fOfN (nLst (fsCons (fC (.tuple [.int 0, .int 1])) (fsCons (fVar 0) fsNil)))) (gNm 2))
 (sRet (fCall W_pieces (faD (fVar 0) (faD (fVar 2) (faD (fVar 1) (faD (fCall W_two_pushes (faD (fVar 0) (faD (fVar 2) (faD (fVar 1) faNil)))) faNil)))))))
def W_hinged : W := runD 3 B_hinged
def B__law_points : FS := (sSeq (sOwn 3 (nLst fsNil))
 (sSeq (sFor (iRng (fsCons (fBin gAdd (fC (.int 1)) (fCall W__law_draw (faPool 0 (faD (fVar 2) faNil)))) fsNil)) (gNm 4)
 (sSeq (sIf (fB (fBin gEq (fBin gMod (fBlt bInt (fsCons (fVarT 4) fsNil)) (fC (.int 3))) (fC (.int 2))))
 (sDrop (fCall W__law_next (faPool 0 faNil)))
 sNext)
 (sApp 3 (fTup (fsCons (fC (.str "point")) (fsCons (fCall W__law_part (faPool 0 (faD (fVar 1) (faD (fC (.int 8)) faNil)))) (fsCons (fCall W__law_ratio (faD (fCall W__law_draw (faPool 0 (faD (fC (.int 9)) faNil))) (faD (fBin gAdd (fC (.int 1)) (fCall W__law_draw (faPool 0 (faD (fC (.int 3)) faNil)))) faNil))) fsNil)))))))
 (sFrz 3 (sRet (fVar 3)))))
def W__law_points : W := runD 5 B__law_points
def B__law_div : FS := (sRet (fCall W__law_ratio (faD (fBin gMul (fBin gIx (fVarT 0) (fC (.int 0))) (fBin gIx (fVarT 1) (fC (.int 1)))) (faD (fBin gMul (fBin gIx (fVarT 0) (fC (.int 1))) (fBin gIx (fVarT 1) (fC (.int 0)))) faNil))))
def W__law_div : W := runD 2 B__law_div
def B__law_simple : FS := (sSeq (sAsg (fTup (fsCons (fC (.int 0)) (fsCons (fC (.int 1)) fsNil))) (gNm 2))
 (sSeq (sFor (iLst (fVar 1)) (gNm 3)
 (sSeq (sAsg (fIte (fB (fBin gEq (fBin gIx (fVarT 3) (fC (.int 0))) (fC (.str "point")))) (fBin gIx (fVarT 3) (fC (.int 1))) (fCall W__law_mul (faD (fTup (fsCons (fC (.int 1)) (fsCons (fC (.int 2)) fsNil))) (faD (fCall W__law_add (faD (fBin gIx (fVarT 3) (fC (.int 1))) (faD (fBin gIx (fVarT 3) (fC (.int 2))) faNil))) faNil)))) (gNm 4))
 (sAsg (fCall W__law_add (faD (fVar 2) (faD (fCall W__law_mul (faD (fCall W__law_force (faD (fVar 3) faNil)) (faD (fVar 4) faNil))) faNil))) (gNm 2))))
 (sSeq (sAsg (fCall W__law_div (faD (fVar 2) (faD (fVar 0) faNil))) (gNm 5))
 (sRet (fOfN (nLst (fsCons (fCall W__law_sub (faD (fCall W__law_total_k29 (faD (fOfN (nLc [3] (iLst (fVar 1)) (gNm 3) fYes (fCall W__law_force (faD (fVar 3) faNil)))) faNil)) (faD (fVar 5) faNil))) (fsCons (fVar 5) fsNil))))))))
def W__law_simple : W := runD 6 B__law_simple
def B_cable_sag : FS := (sRet (fCall W_over (faD (fCall W_moment_at (faD (fCall W_hinged (faD (fVar 0) (faD (fVar 1) faNil))) (faD (fVar 3) faNil))) (faD (fVar 2) faNil))))
def W_cable_sag : W := runD 4 B_cable_sag
def B_pull_for : FS := (sRet (fCall W_over (faD (fCall W_moment_at (faD (fCall W_hinged (faD (fVar 0) (faD (fVar 1) faNil))) (faD (fVar 2) faNil))) (faD (fVar 3) faNil))))
def W_pull_for : W := runD 4 B_pull_for
def B_cable_slopes : FS := (sSeq (sOwn 3 (nLst fsNil))
 (sSeq (sFor (iLst (fCall W_hinged (faD (fVar 0) (faD (fVar 1) faNil)))) (gTp (gsCons (gNm 4) (gsCons (gNm 5) (gsCons (gNm 6) gsNil))))
 (sSeq (sAsg (fCall W_plus (faD (fBin gIx (fVarT 6) (fC (.int 0))) (faD (fCall W_times (faD (fBin gIx (fVarT 6) (fC (.int 1))) (faD (fVar 4) faNil))) faNil))) (gNm 7))
 (sSeq (sAsg (fCall W_plus (faD (fBin gIx (fVarT 6) (fC (.int 0))) (faD (fCall W_times (faD (fBin gIx (fVarT 6) (fC (.int 1))) (faD (fVar 5) faNil))) faNil))) (gNm 8))
 (sApp 3 (fCall W_over (faD (fCall W_minus (faD (fVar 8) (faD (fVar 7) faNil))) (faD (fCall W_times (faD (fVar 2) (faD (fCall W_minus (faD (fVar 5) (faD (fVar 4) faNil))) faNil))) faNil)))))))
 (sFrz 3 (sRet (fVar 3)))))
def W_cable_slopes : W := runD 9 B_cable_slopes
def B_greatest_pull : FS := (sSeq (sAsg (fC (.tuple [.int 0, .int 1])) (gNm 3))
 (sSeq (sFor (iLst (fCall W_cable_slopes (faD (fVar 0) (faD (fVar 1) (faD (fVar 2) faNil))))) (gNm 4)
 (sSeq (sAsg (fCall W_times (faD (fCall W_times (faD (fVar 2) (faD (fVar 2) faNil))) (faD (fCall W_plus (faD (fC (.tuple [.int 1, .int 1])) (faD (fCall W_times (faD (fVar 4) (faD (fVar 4) faNil))) faNil))) faNil))) (gNm 5))
 (sIf (fTru (fCall W_less (faD (fVar 3) (faD (fVar 5) faNil))))
 (sAsg (fVar 5) (gNm 3))
 sNext)))
 (sRet (fVar 3))))
def W_greatest_pull : W := runD 6 B_greatest_pull
def B_from_ends : FS := (sSeq (sAsg (fC (.tuple [.int 0, .int 1])) (gNm 3))
 (sSeq (sIf (fTru (fBin gIx (fVarT 1) (fC (.int 0))))
 (sAsg (fCall W_plus (faD (fVar 3) (faD (fCall W_over (faD (fCall W_minus (faD (fVar 0) (faD (fVar 2) faNil))) (faD (fVar 0) faNil))) faNil))) (gNm 3))
 sNext)
 (sSeq (sIf (fTru (fBin gIx (fVarT 1) (fC (.int 1))))
 (sAsg (fCall W_plus (faD (fVar 3) (faD (fCall W_over (faD (fVar 2) (faD (fVar 0) faNil))) faNil))) (gNm 3))
 sNext)
 (sRet (fVar 3)))))
def W_from_ends : W := runD 4 B_from_ends
def B_break_down : FS := (sSeq (sAsg (fCall W_hinged (faD (fVar 0) (faD (fVar 2) faNil))) (gNm 4))
 (sSeq (sAsg (fC .none) (gNm 5))
 (sSeq (sFor (iLst (fVar 2)) (gNm 6)
 (sSeq (sAsg (fBin gIx (fVarT 6) (fC (.int 1))) (gNm 7))
 (sSeq (sAsg (fCall W_moment_at (faD (fVar 4) (faD (fVar 7) faNil))) (gNm 8))
 (sIf (fTru (fCall W_less (faD (fC (.tuple [.int 0, .int 1])) (faD (fVar 8) faNil))))
 (sSeq (sAsg (fTup (fsCons (fCall W_over (faD (fCall W_times (faD (fVar 3) (faD (fCall W_plus (faD (fC (.tuple [.int 1, .int 1])) (faD (fCall W_from_ends (faD (fVar 0) (faD (fVar 1) (faD (fVar 7) faNil)))) faNil))) faNil))) (faD (fVar 8) faNil))) (fsCons (fVar 7) fsNil))) (gNm 9))
 (sIf (fOr (fB (fBin gIsN (fVarT 5) (fC .none))) (fOr (fTru (fCall W_less (faD (fBin gIx (fVarT 9) (fC (.int 0))) (faD (fBin gIx (fVarT 5) (fC (.int 0))) faNil)))) (fAnd (fB (fBin gEq (fBin gIx (fVarT 9) (fC (.int 0))) (fBin gIx (fVarT 5) (fC (.int 0))))) (fTru (fCall W_less (faD (fVar 7) (faD (fBin gIx (fVarT 5) (fC (.int 1))) faNil)))))))
 (sAsg (fVar 9) (gNm 5))
 sNext))
 sNext))))
 (sRet (fVar 5)))))
def W_break_down : W := runD 10 B_break_down
def B_moments_at_break : FS := (sSeq (sAsg (fCall W_times (faD (fVar 4) (faD (fCall W_moment_at (faD (fCall W_hinged (faD (fVar 0) (faD (fVar 2) faNil))) (faD (fVar 5) faNil))) faNil))) (gNm 6))
 (sRet (fCall W_minus (faD (fVar 6) (faD (fCall W_times (faD (fVar 3) (faD (fCall W_from_ends (faD (fVar 0) (faD (fVar 1) (faD (fVar 5) faNil)))) faNil))) faNil)))))
def W_moments_at_break : W := runD 7 B_moments_at_break
end TW

set_option Elab.async false
set_option linter.all false
set_option maxRecDepth 100000
set_option maxHeartbeats 400000
set_option exponentiation.threshold 10000
/-! KHinge: beams on both ends, point loads downwards. -/
namespace TW
open PySem DL
theorem w_ldiv {a b : Rat} {Q : D → Prop} (hb : b ≠ 0) (hs : sz a + sz b < 9000) (h : Q (fr (a / b))) : W__law_div [.d (fr a), .d (fr b)] Q := by
  have := log2_num_le a; have := log2_num_le b; have := log2_den_le a; have := log2_den_le b
  have hn : b.num ≠ 0 := fun e => hb (Rat.num_eq_zero.mp e)
  have := a.den_pos
  simp [W__law_div, B__law_div, fr]
  refine ⟨.inl (by omega), .inl (by omega), ?_⟩
  refine w_lratio (k := sz a + sz b) (Int.mul_ne_zero (by omega) hn) (natAbs_mul_lt (num_lt a) (den_abs b)) (natAbs_mul_lt (den_abs a) (num_lt b)) (by omega) ?_
  rw [div_divInt]; exact h
section
variable {n j c m : Nat} {L a b x : Rat} {l : Ld} {ls : List Ld} {Q : D → Prop}
theorem Bm.hinged (h : Bm n j c L 0 L ls) (N : Num n j c m) (q : Q (pcD L [0, L] (pp2 0 L ls) ls)) : W_hinged [.d (fr L), .d (.list (ls.map ld))] Q := by
  simp [W_hinged, B_hinged]
  rw [fr_0]
  refine Bm.two h N _ ?_
  exact Bm.pieces h N q
theorem right_0 (ls : List Ld) : right 0 ls = msum ls := by
  have := tot_lin ls 0
  unfold right msum
  rw [this]; grind
theorem w_lsimple (h : Bm n j c L 0 L ls) (N : Num n j c m) (q : Q (.list ((pp2 0 L ls).map fr))) : W__law_simple [.d (fr L), .d (.list (ls.map ld))] Q := by
  have N1 := N.h1; have N3 := N.h3; have N5 := N.h5; have N6 := N.h6
  have hlen := h.len
  have hll : ls.length ≤ sizeLine := by show _ ≤ 16777216; omega
  have l1 := Nat.mul_le_mul_right (8 * j + n + 8) hlen
  have j4 := N.h4
  have l9 : ls.length * (5 * j + 6) ≤ ls.length * (8 * j + n + 8) := Nat.mul_le_mul_left _ (by omega)
  have l8 : ls.length * (3 * j + 2) ≤ ls.length * (8 * j + n + 8) := Nat.mul_le_mul_left _ (by omega)
  have hmb : ∀ z ∈ ls.map (fun l => l.w * l.m), sz z + 1 ≤ 5 * j + 6 := fun z hz => by
    obtain ⟨l, hl, rfl⟩ := List.mem_map.mp hz
    have := sz_mul l.w l.m; have := (h.lb l hl).w; have := (h.lb l hl).m
    omega
  have hws : szs (ls.map Ld.w) ≤ ls.length * (3 * j + 2) := szs_map_le fun l hl => by have := (h.lb l hl).w; omega
  have hL := h.sL
  simp [W__law_simple, B__law_simple]
  refine loopL_idx (enc := ld) ls (fun k e => ∃ s3 s4 : Slot, e = [.d (fr L), .d (.list (ls.map ld)), .d (fr (tot ((ls.map fun l => l.w * l.m).take k))), s3, s4, .un]) ?_ ?_ _ ⟨.un, .un, rfl⟩
  · rintro e ⟨s3, s4, rfl⟩
    rw [show (ls.map fun l => l.w * l.m).take ls.length = ls.map fun l => l.w * l.m from List.take_of_length_le (by simp)]
    have h1 := sz_tot_take hmb ls.length (by simp)
    rw [show (ls.map fun l => l.w * l.m).take ls.length = ls.map fun l => l.w * l.m from List.take_of_length_le (by simp)] at h1
    have e2 : tot (ls.map fun l => l.w * l.m) / L = push2 0 L ls := by
      unfold push2
      rw [right_0, show L - 0 = L by grind]; rfl
    simp
    refine w_ldiv (by have := h.L0; grind) (by omega) ?_
    rw [e2]
    refine compL_map hll (φ := fun l => fr l.w) (fun l hl R r => ?_) ?_
    · simp
      exact w_lforce (h.lb l hl) (by omega) r
    rw [show (List.map (fun l => fr l.w) ls) = (ls.map Ld.w).map fr by simp]
    refine w_ltotal (by omega) ?_
    have h2 := sz_tot (ls.map Ld.w)
    have h3 := h.p2 N
    refine w_lsub (by omega) ?_
    exact q
  · rintro k hk e nx hnx ⟨s3, s4, rfl⟩
    have hB := h.lb ls[k] (List.getElem_mem _)
    have hw := hB.w; have hm := hB.m
    have hq1 := hB.lo; have hq2 := hB.hi
    have h1 := sz_tot_take hmb k (by simp; omega)
    have lk : k * (5 * j + 6) ≤ ls.length * (5 * j + 6) := Nat.mul_le_mul_right _ (by omega)
    have fin := fun s3 s4 : Slot => hnx _ ⟨s3, s4, rfl⟩
    rw [tot_take_succ _ k (by simpa using hk), List.getElem_map] at fin
    have h5 := sz_mul ls[k].w ls[k].m
    have zh := sz_half
    generalize ls[k] = l at *
    have hgo : ∀ X : D, W__law_force [.d (ld l)] (fun y => W__law_mul [.d y, .d (fr l.m)] fun y => W__law_add [.d (fr (tot ((ls.map fun l => l.w * l.m).take k))), .d y] fun y => nx [.d (fr L), .d (.list (ls.map ld)), .d y, .d (ld l), .d X, .un]) := fun X =>
      w_lforce hB (by omega) (w_lmul (by omega) (w_ladd (by omega) (fin _ _)))
    obtain ⟨pt, lo, hi, f⟩ := l
    simp only [] at *
    cases pt
    · simp [ld]
      rw [fr_half]
      have := sz_add lo hi
      refine w_ladd (by omega) (w_lmul (by omega) ?_)
      exact hgo _
    · simp [ld]
      exact hgo _
structure Pt (L : Rat) (l : Ld) : Prop where
  pt : l.pt = true
  b : l.B 9
  sf : sz l.f ≤ 4
  lo0 : 0 ≤ l.lo
  loL : l.lo ≤ L
  f0 : 0 ≤ l.f
theorem divInt_nonneg' {p q : Int} (hq : 0 < q) (hp : 0 ≤ p) : 0 ≤ Rat.divInt p q := Rat.divInt_nonneg hp (by omega)
theorem w_lpoints {most : Nat} (hL : 0 ≤ L) (hs : sz L ≤ 5) (hm : 0 < most) (hm2 : most < 20) (h : ∀ ls : List Ld, ls ≠ [] → ls.length ≤ most → (∀ l ∈ ls, Pt L l) → Q (.list (ls.map ld))) : W__law_points [.pool, .d (fr L), .d (.int most)] Q := by
  simp [W__law_points, B__law_points]
  refine w_draw (by omega) (by omega) fun t ht => ?_
  simp
  refine ⟨by omega, by omega, ?_⟩
  rw [rngD_nat' _ (t + 1) (by omega)]
  refine loopL_range (t + 1) (fun k e => ∃ (ls : List Ld) (s4 : Slot), e = [.pool, .d (fr L), .d (.int most), .own (ls.map ld), s4] ∧ ls.length = k ∧ ∀ l ∈ ls, Pt L l) ?_ ?_ _ ⟨[], .un, rfl, rfl, by simp⟩
  · rintro e ⟨ls, s4, rfl, hl, hok⟩
    simp [frzE]
    exact h ls (by intro e; rw [e] at hl; simp at hl) (by omega) hok
  · rintro k hk e nx hnx ⟨ls, s4, rfl, hl, hok⟩
    have hsz : ls.length < sizeLine := by show _ < 16777216; omega
    have body : ∀ s4 : Slot, W__law_part [.pool, .d (fr L), .d (.int 8)] (fun x => W__law_draw [.pool, .d (.int 9)] fun y => W__law_draw [.pool, .d (.int 3)] fun z => gAdd (.int 1) z fun z => W__law_ratio [.d y, .d z] fun f => ls.length < sizeLine ∧ nx [.pool, .d (fr L), .d (.int most), .own (ls.map ld ++ [.tuple [.str "point", x, f]]), s4]) := fun s4 => by
      refine w_lpartJ (k := 8) (j := 4) (by decide) (by decide) (by decide) hL (by omega) fun x x0 xL sx => ?_
      refine w_draw (by decide) (by decide) fun a ha => ?_
      refine w_draw (by decide) (by decide) fun b hb => ?_
      rw [gAdd_i]
      have hf := sz_divInt (k := 4) (p := (a : Int)) (q := 1 + (b : Int)) (by omega) (by omega) (by omega)
      have hf0 := divInt_nonneg' (p := (a : Int)) (q := 1 + (b : Int)) (by omega) (by omega)
      refine w_lratio (k := 4) (by omega) (by omega) (by omega) (by decide) ?_
      generalize Rat.divInt (a : Int) (1 + (b : Int)) = f at *
      refine ⟨hsz, ?_⟩
      have := hnx _ ⟨ls ++ [⟨true, x, x, f⟩], s4, rfl, by simp [hl], fun l hl' => by
        rcases List.mem_append.mp hl' with q | q
        · exact hok l q
        · have : l = ⟨true, x, x, f⟩ := by simpa using q
          subst this
          exact ⟨rfl, ⟨by show sz x ≤ 9; omega, by show sz x ≤ 9; omega, by show sz f ≤ 9; omega⟩, hf, x0, xL, hf0⟩⟩
      simpa [ld] using this
    by_cases hk3 : ((k : Int) % 3 = 2)
    · simp [hk3, sApp, mutS]
      exact w_next (body _)
    · simp [hk3, sApp, mutS]
      exact body _
theorem Pt.bm (hL : 0 < L) (sL : sz L ≤ 5) (hc : ls.length ≤ c) (hok : ∀ l ∈ ls, Pt L l) : Bm 18 9 c L 0 L ls :=
  ⟨hL, by omega, by rw [sz_0]; decide, by omega, hL, Rat.le_refl, Rat.le_refl, fun l hl => (hok l hl).b, fun l hl => ⟨(hok l hl).lo0, (hok l hl).loL⟩, fun l hl hp => (by rw [(hok l hl).pt] at hp; cases hp), hc⟩
theorem Pt.w (h : Pt L l) : l.w = l.f := by unfold Ld.w; rw [if_pos h.pt]
theorem Pt.mid (h : Pt L l) : l.m = l.lo := by unfold Ld.m; rw [if_pos h.pt]
theorem Pt.turn (h : Pt L l) (x : Rat) : turnQ l x = if x < l.lo then 0 else l.f * (x - l.lo) := by unfold turnQ; rw [if_pos h.pt]
theorem pt_p2 (hok : ∀ l ∈ ls, Pt L l) (hc : ls.length ≤ 4) (sL : sz L ≤ 5) (hL : 0 < L) : sz (push2 0 L ls) ≤ 73 := by
  have h1 := sz_tot (ls.map fun l => l.w * (l.m - 0))
  have h2 := szs_map_le (as := ls) (φ := fun l => l.w * (l.m - 0)) (m := 16) fun l hl => by
    have q := hok l hl
    have := sz_mul l.w (l.m - 0); have := sz_sub l.m 0; have := sz_0
    have hf := q.sf; have hlo := q.b.lo
    rw [q.w, q.mid] at *
    omega
  have h3 := sz_div (right 0 ls) (L - 0) (by intro e; grind)
  have h4 := sz_sub L 0
  have := sz_0
  have l16 := Nat.mul_le_mul_right 16 hc
  unfold push2
  unfold right at *
  omega
theorem pt_p1 (hok : ∀ l ∈ ls, Pt L l) (hc : ls.length ≤ 4) (sL : sz L ≤ 5) (hL : 0 < L) : sz (push1 0 L ls) ≤ 95 := by
  have h0 := pt_p2 hok hc sL hL
  have h1 := sz_tot (ls.map Ld.w)
  have h2 := szs_map_le (as := ls) (φ := Ld.w) (m := 5) fun l hl => by
    have q := hok l hl
    have := q.sf
    rw [q.w]; omega
  have h3 := sz_sub (wsum ls) (push2 0 L ls)
  have l5 := Nat.mul_le_mul_right 5 hc
  unfold push1
  unfold wsum at *
  omega
theorem pt_mom (hok : ∀ l ∈ ls, Pt L l) (hc : ls.length ≤ 4) (sL : sz L ≤ 5) (hL : 0 < L) (sx : sz x ≤ 10) : sz (momQ [0, L] (pp2 0 L ls) ls x) ≤ 320 := by
  have p1 := pt_p1 hok hc sL hL
  have p2 := pt_p2 hok hc sL hL
  have z0 := sz_0
  have h1 := sz_tot (ls.map fun l => turnQ l x)
  have h2 := szs_map_le (as := ls) (φ := fun l => turnQ l x) (m := 26) fun l hl => by
    have q := hok l hl
    have := q.sf; have := q.b.lo
    have := sz_mul l.f (x - l.lo); have := sz_sub x l.lo
    show sz (turnQ l x) + 1 ≤ 26
    rw [q.turn]
    split <;> omega
  have l26 := Nat.mul_le_mul_right 26 hc
  have e1 := sz_mul (push1 0 L ls) (x - 0); have e2 := sz_sub x 0
  have e3 := sz_mul (push2 0 L ls) (x - L); have e4 := sz_sub x L
  unfold momQ
  rw [supQ2]
  have e5 : sz (if x < 0 then 0 else push1 0 L ls * (x - 0)) ≤ 108 := by split <;> omega
  have e6 : sz (if x < L then 0 else push2 0 L ls * (x - L)) ≤ 92 := by split <;> omega
  have e7 := sz_add (if x < 0 then 0 else push1 0 L ls * (x - 0)) (if x < L then 0 else push2 0 L ls * (x - L))
  have e8 := sz_sub ((if x < 0 then 0 else push1 0 L ls * (x - 0)) + (if x < L then 0 else push2 0 L ls * (x - L))) (loadQ x ls)
  unfold loadQ at *
  omega
end
/-- two ordered lists of the same numbers are one -/
theorem srt_ext : ∀ {xs ys : List Rat}, Srt xs → Srt ys → (∀ z, z ∈ xs ↔ z ∈ ys) → xs = ys
  | [], [], _, _, _ => rfl
  | [], y :: ys, _, _, h => by have := (h y).mpr (by simp); simp at this
  | x :: xs, [], _, _, h => by have := (h x).mp (by simp); simp at this
  | x :: xs, y :: ys, hx, hy, h => by
    obtain ⟨x1, x2⟩ := List.pairwise_cons.mp hx
    obtain ⟨y1, y2⟩ := List.pairwise_cons.mp hy
    have e : x = y := by
      rcases List.mem_cons.mp ((h x).mp (by simp)) with e | e
      · exact e
      · rcases List.mem_cons.mp ((h y).mpr (by simp)) with e' | e'
        · exact e'.symm
        · have := y1 x e; have := x1 y e'; grind
    subst e
    congr 1
    refine srt_ext x2 y2 fun z => ?_
    constructor
    · intro hz
      rcases List.mem_cons.mp ((h z).mp (by simp [hz])) with e | e
      · subst e; have := x1 z hz; grind
      · exact e
    · intro hz
      rcases List.mem_cons.mp ((h z).mpr (by simp [hz])) with e | e
      · subst e; have := y1 z hz; grind
      · exact e
end TW

set_option Elab.async false
set_option linter.all false
set_option maxRecDepth 100000
set_option maxHeartbeats 400000
set_option exponentiation.threshold 10000
/-! KCable: cables under point loads. -/
namespace TW
open PySem DL
theorem N40 : Num 18 9 4 440 := ⟨by decide, by decide, by decide, by decide, by decide, by decide, by decide⟩
structure Cb (L : Rat) (ls : List Ld) : Prop where
  L0 : 0 < L
  sL : sz L ≤ 5
  len : ls.length ≤ 4
  ok : ∀ l ∈ ls, Pt L l
abbrev MQ (L : Rat) (ls : List Ld) (x : Rat) : Rat := momQ [0, L] (pp2 0 L ls) ls x
section
variable {L x y pull : Rat} {ls : List Ld} {Q : D → Prop}
theorem Cb.bm (h : Cb L ls) : Bm 18 9 4 L 0 L ls := Pt.bm h.L0 h.sL h.len h.ok
theorem Cb.msz (h : Cb L ls) (sx : sz x ≤ 10) : sz (MQ L ls x) ≤ 320 := pt_mom h.ok h.len h.sL h.L0 sx
theorem Cb.moment_at (h : Cb L ls) (x0 : 0 ≤ x) (xL : x ≤ L) (sx : sz x ≤ 10) (q : Q (fr (MQ L ls x))) : W_moment_at [.d (pcD L [0, L] (pp2 0 L ls) ls), .d (fr x)] Q := w_moment_at (h.bm.at N40 x0 xL (by omega)) q
theorem Cb.sag (h : Cb L ls) (x0 : 0 ≤ x) (xL : x ≤ L) (sx : sz x ≤ 10) (hp : pull ≠ 0) (sp : sz pull < 8000) (q : Q (fr (MQ L ls x / pull))) : W_cable_sag [.d (fr L), .d (.list (ls.map ld)), .d (fr pull), .d (fr x)] Q := by
  have hm := h.msz sx
  simp [W_cable_sag, B_cable_sag]
  refine h.bm.hinged N40 (h.moment_at x0 xL sx (w_over hp (by omega) q))
theorem Cb.pullFor (h : Cb L ls) (x0 : 0 ≤ x) (xL : x ≤ L) (sx : sz x ≤ 10) (hp : y ≠ 0) (sp : sz y < 8000) (q : Q (fr (MQ L ls x / y))) : W_pull_for [.d (fr L), .d (.list (ls.map ld)), .d (fr x), .d (fr y)] Q := by
  have hm := h.msz sx
  simp [W_pull_for, B_pull_for]
  refine h.bm.hinged N40 (h.moment_at x0 xL sx (w_over hp (by omega) q))
/-! ### slopes -/
theorem lm_c {l : Ld} (h : l.pt = true) (a : Rat) : (lm l a).c = 0 := by
  unfold lm
  rw [if_pos h]
  split <;> rfl
theorem lms_c : ∀ (ls : List Ld) (t : V3) (a : Rat), (∀ l ∈ ls, l.pt = true) → t.c = 0 → (ls.foldl (fun t l => t.add (lm l a)) t).c = 0
  | [], t, a, _, h => h
  | l :: ls, t, a, hl, h => by
    rw [List.foldl_cons]
    refine lms_c ls _ a (fun q hq => hl q (by simp [hq])) ?_
    show t.c + (lm l a).c = 0
    rw [h, lm_c (hl l (by simp))]; grind
theorem sup_c : ∀ (zs : List (Rat × Rat)) (t : V3) (a : Rat), t.c = 0 → (zs.foldl (fun t p => if a < p.1 then t else t.add (mo p.2 p.1)) t).c = 0
  | [], t, a, h => h
  | p :: zs, t, a, h => by
    rw [List.foldl_cons]
    refine sup_c zs _ a ?_
    split
    · exact h
    · show t.c + 0 = 0
      rw [h]; grind
theorem Cb.pc_c (h : Cb L ls) (a : Rat) : (pcs [0, L] (pp2 0 L ls) ls a).c = 0 := lms_c ls _ a (fun l hl => (h.ok l hl).pt) (sup_c _ _ a rfl)
/-- the slope of the moment on the piece that begins at a -/
def slB (L : Rat) (ls : List Ld) (a : Rat) : Rat := (if a < 0 then 0 else push1 0 L ls) + (if a < L then 0 else push2 0 L ls) - tot (ls.map fun l => if a < l.lo then 0 else l.f)
theorem lms_b : ∀ (ls : List Ld) (t : V3) (a : Rat), (∀ l ∈ ls, l.pt = true) → (ls.foldl (fun t l => t.add (lm l a)) t).b = t.b - tot (ls.map fun l => if a < l.lo then 0 else l.f)
  | [], t, a, _ => by show t.b = t.b - 0; grind
  | l :: ls, t, a, hl => by
    rw [List.foldl_cons, lms_b ls _ a fun q hq => hl q (by simp [hq]), List.map_cons, tot_cons]
    have : (lm l a).b = - (if a < l.lo then 0 else l.f) := by
      unfold lm
      rw [if_pos (hl l (by simp))]
      by_cases c : a < l.lo
      · rw [if_pos c, if_pos c]; show (0 : Rat) = -0; grind
      · rw [if_neg c, if_neg c]; show 0 - l.f = -l.f; grind
    show t.b + (lm l a).b - _ = _
    rw [this]; grind
theorem Cb.pc_b (h : Cb L ls) (a : Rat) : (pcs [0, L] (pp2 0 L ls) ls a).b = slB L ls a := by
  unfold pcs
  rw [lms_b ls _ a fun l hl => (h.ok l hl).pt]
  have : (sup [0, L] (pp2 0 L ls) a V3.zero).b = (if a < 0 then 0 else push1 0 L ls) + (if a < L then 0 else push2 0 L ls) := by
    unfold sup
    simp only [List.zip_cons_cons, List.zip_nil_right, List.foldl_cons, List.foldl_nil]
    by_cases c1 : a < 0 <;> by_cases c2 : a < L <;> simp only [c1, c2, if_true, if_false, V3.add, V3.zero, mo] <;> grind
  rw [this]
  rfl
def brk (L : Rat) (ls : List Ld) : List Rat := ordQ (cuts L [0, L] ls)
theorem Cb.diff (h : Cb L ls) {p : Rat × Rat} (hp : p ∈ (brk L ls).zip (brk L ls).tail) : MQ L ls p.2 - MQ L ls p.1 = slB L ls p.1 * (p.2 - p.1) ∧ p.1 < p.2 := by
  have hb := h.bm
  have srt : Srt (brk L ls) := ord_srt (cuts L [0, L] ls)
  have mem : ∀ z, z ∈ brk L ls ↔ z ∈ cuts L [0, L] ls := fun z => ord_mem
  obtain ⟨k, hk, rfl⟩ := List.getElem_of_mem hp
  have hk1 : k + 1 < (brk L ls).length := by have hk' := hk; rw [List.length_zip, List.length_tail] at hk'; omega
  have ez : ((brk L ls).zip (brk L ls).tail)[k] = ((brk L ls)[k], (brk L ls)[k + 1]) := by simp
  rw [ez]
  have lt : (brk L ls)[k] < (brk L ls)[k + 1] := List.pairwise_iff_getElem.mp srt k (k + 1) (by omega) hk1 (by omega)
  have key : ∀ x, (brk L ls)[k] ≤ x → x ≤ (brk L ls)[k + 1] → (pcs [0, L] (pp2 0 L ls) ls (brk L ls)[k]).at x = MQ L ls x := fun x h1 h2 =>
    at_pcs (L := L) (fun l hl hp => (hb.h0 l hl hp).1) h1 fun z hz => by
      rcases srt_next srt hk1 z ((mem z).mpr hz) with c | c
      · exact .inl c
      · exact .inr (by grind)
  have k1 := key _ Rat.le_refl (Rat.le_of_lt lt)
  have k2 := key _ (Rat.le_of_lt lt) Rat.le_refl
  simp only [V3.at, h.pc_c, h.pc_b] at k1 k2
  refine ⟨?_, lt⟩
  simp only []
  rw [← k1, ← k2]; grind
def slQ (L pull : Rat) (ls : List Ld) (p : Rat × Rat) : Rat := (MQ L ls p.2 - MQ L ls p.1) / (pull * (p.2 - p.1))
theorem Cb.slq (h : Cb L ls) (hp : pull ≠ 0) {p : Rat × Rat} (hm : p ∈ (brk L ls).zip (brk L ls).tail) : slQ L pull ls p = slB L ls p.1 / pull ∧ (MQ L ls p.2 - MQ L ls p.1) / (p.2 - p.1) / pull = slQ L pull ls p := by
  obtain ⟨e, lt⟩ := h.diff hm
  have hne : p.2 - p.1 ≠ 0 := by grind
  unfold slQ
  rw [e]
  constructor <;> grind
def slopes (L pull : Rat) (ls : List Ld) : List Rat := ((brk L ls).zip (brk L ls).tail).map (slQ L pull ls)
theorem Cb.mem (h : Cb L ls) {p : Rat × Rat} (hp : p ∈ (brk L ls).zip (brk L ls).tail) : (0 ≤ p.1 ∧ p.1 ≤ L ∧ sz p.1 ≤ 9) ∧ (0 ≤ p.2 ∧ p.2 ≤ L ∧ sz p.2 ≤ 9) := by
  have hb := h.bm
  have one : ∀ z ∈ cuts L [0, L] ls, sz z ≤ 9 := fun z hz => by
    unfold cuts at hz
    rw [List.mem_append, List.mem_append] at hz
    have := h.sL
    rcases hz with (hz | hz) | hz
    · simp at hz; rcases hz with rfl | rfl
      · rw [sz_0]; decide
      · omega
    · simp at hz; rcases hz with rfl | rfl
      · rw [sz_0]; decide
      · omega
    · obtain ⟨u, hu, hz⟩ := List.mem_flatten.mp hz
      obtain ⟨l, hl, rfl⟩ := List.mem_map.mp hu
      unfold Ld.cuts at hz
      rw [if_pos (h.ok l hl).pt] at hz
      simp at hz; subst hz
      exact (h.ok l hl).b.lo
  have a1 := ord_mem.mp (List.of_mem_zip hp).1
  have a2 := ord_mem.mp (List.mem_of_mem_tail (List.of_mem_zip hp).2)
  exact ⟨⟨(hb.cuts _ a1).1, (hb.cuts _ a1).2, one _ a1⟩, ⟨(hb.cuts _ a2).1, (hb.cuts _ a2).2, one _ a2⟩⟩
theorem Cb.ends (h : Cb L ls) {p : Rat × Rat} (hp : p ∈ (brk L ls).zip (brk L ls).tail) : (pcs [0, L] (pp2 0 L ls) ls p.1).a + (pcs [0, L] (pp2 0 L ls) ls p.1).b * p.1 = MQ L ls p.1 ∧ (pcs [0, L] (pp2 0 L ls) ls p.1).a + (pcs [0, L] (pp2 0 L ls) ls p.1).b * p.2 = MQ L ls p.2 := by
  obtain ⟨_, _, lt, key⟩ := h.bm.piece hp
  have k1 := key _ Rat.le_refl (Rat.le_of_lt lt)
  have k2 := key _ (Rat.le_of_lt lt) Rat.le_refl
  simp only [V3.at, h.pc_c] at k1 k2
  exact ⟨(by grind : _ = _).trans k1, (by grind : _ = _).trans k2⟩
theorem Cb.slz (h : Cb L ls) (hp : pull ≠ 0) (sp : sz pull ≤ 5) {p : Rat × Rat} (hm : p ∈ (brk L ls).zip (brk L ls).tail) : sz (slQ L pull ls p) ≤ 665 := by
  obtain ⟨⟨_, _, z1⟩, ⟨_, _, z2⟩⟩ := h.mem hm
  obtain ⟨_, lt⟩ := h.diff hm
  have m1 := h.msz (x := p.1) (by omega)
  have m2 := h.msz (x := p.2) (by omega)
  have g1 := sz_sub (MQ L ls p.2) (MQ L ls p.1)
  have g2 := sz_sub p.2 p.1
  have g3 := sz_mul pull (p.2 - p.1)
  have g4 := sz_div (MQ L ls p.2 - MQ L ls p.1) (pull * (p.2 - p.1)) (by
    intro e
    rcases Rat.mul_eq_zero.mp e with e | e
    · exact hp e
    · grind)
  unfold slQ
  omega
theorem Cb.zl (h : Cb L ls) : ((brk L ls).zip (brk L ls).tail).length < 3100 := by
  have := fold_len (cuts L [0, L] ls) []
  have := (h.bm.cut N40).len
  rw [List.length_zip, List.length_tail]
  unfold brk ordQ
  simp at *
  omega
theorem Cb.cable_slopes (h : Cb L ls) (hp : pull ≠ 0) (sp : sz pull ≤ 5) (q : Q (.list ((slopes L pull ls).map fr))) : W_cable_slopes [.d (fr L), .d (.list (ls.map ld)), .d (fr pull)] Q := by
  have hzl := h.zl
  have hlen := h.len
  simp [W_cable_slopes, B_cable_slopes]
  refine h.bm.hinged N40 ?_
  unfold pcD
  simp only []
  refine loopL_idx (enc := fun p : Rat × Rat => .tuple [fr p.1, fr p.2, v3 (pcs [0, L] (pp2 0 L ls) ls p.1)]) ((brk L ls).zip (brk L ls).tail) (fun k e => ∃ s4 s5 s6 s7 s8 : Slot, e = [.d (fr L), .d (.list (ls.map ld)), .d (fr pull), .own (((slopes L pull ls).take k).map fr), s4, s5, s6, s7, s8]) ?_ ?_ _ ⟨.un, .un, .un, .un, .un, rfl⟩
  · rintro e ⟨s4, s5, s6, s7, s8, rfl⟩
    rw [show (slopes L pull ls).take ((brk L ls).zip (brk L ls).tail).length = slopes L pull ls from List.take_of_length_le (by unfold slopes; rw [List.length_map]; exact Nat.le_refl _)]
    simpa [frzE] using q
  · rintro k hk e nx hnx ⟨s4, s5, s6, s7, s8, rfl⟩
    have hm : ((brk L ls).zip (brk L ls).tail)[k] ∈ (brk L ls).zip (brk L ls).tail := List.getElem_mem _
    have fin := fun s4 s5 s6 s7 s8 : Slot => hnx _ ⟨s4, s5, s6, s7, s8, rfl⟩
    have hts : (slopes L pull ls).take (k + 1) = (slopes L pull ls).take k ++ [slQ L pull ls ((brk L ls).zip (brk L ls).tail)[k]] := by
      rw [List.take_succ_eq_append_getElem (by unfold slopes; rw [List.length_map]; exact hk)]
      congr 2
      simp only [slopes, List.getElem_map]
    rw [hts] at fin
    have hsl : ((slopes L pull ls).take k).length < sizeLine := by rw [List.length_take]; show _ < 16777216; omega
    generalize ((brk L ls).zip (brk L ls).tail)[k] = p at *
    obtain ⟨⟨_, _, z1⟩, ⟨_, _, z2⟩⟩ := h.mem hm
    obtain ⟨_, lt⟩ := h.diff hm
    obtain ⟨e1, e2⟩ := h.ends hm
    have hB := (h.bm.pc N40).B p.1
    have ha := hB.a; have hb := hB.b
    simp only [List.length_cons, List.length_nil] at ha hb
    have m1 := h.msz (x := p.1) (by omega)
    have m2 := h.msz (x := p.2) (by omega)
    have g1 := sz_sub (MQ L ls p.2) (MQ L ls p.1)
    have g2 := sz_sub p.2 p.1
    have g3 := sz_mul pull (p.2 - p.1)
    have t1 := sz_mul (pcs [0, L] (pp2 0 L ls) ls p.1).b p.1
    have t2 := sz_mul (pcs [0, L] (pp2 0 L ls) ls p.1).b p.2
    have l54 := Nat.mul_le_mul_right (5 * 9 + 9) hlen
    simp [v3, sApp, mutS]
    refine w_times (by omega) (w_plus (by omega) ?_)
    rw [e1]
    refine w_times (by omega) (w_plus (by omega) ?_)
    rw [e2]
    refine w_minus (by omega) (w_minus (by omega) (w_times (by omega) (w_over ?_ (by omega) ⟨?_, ?_⟩)))
    · intro e
      rcases Rat.mul_eq_zero.mp e with e | e
      · exact hp e
      · grind
    · simpa using hsl
    · simpa [slQ] using fin _ _ _ _ _
/-! ### the greatest pull -/
def sqQ (pull s : Rat) : Rat := pull * pull * (1 + s * s)
def mxQ (pull : Rat) (ss : List Rat) : Rat := ss.foldl (fun b s => if b < sqQ pull s then sqQ pull s else b) 0
theorem mx_fold (pull : Rat) : ∀ (ss : List Rat) (b : Rat), (∀ s ∈ ss, sqQ pull s ≤ ss.foldl (fun b s => if b < sqQ pull s then sqQ pull s else b) b) ∧ b ≤ ss.foldl (fun b s => if b < sqQ pull s then sqQ pull s else b) b ∧
    (ss.foldl (fun b s => if b < sqQ pull s then sqQ pull s else b) b = b ∨ ∃ s ∈ ss, ss.foldl (fun b s => if b < sqQ pull s then sqQ pull s else b) b = sqQ pull s)
  | [], b => ⟨by simp, Rat.le_refl, .inl rfl⟩
  | s :: ss, b => by
    rw [List.foldl_cons]
    obtain ⟨h1, h2, h3⟩ := mx_fold pull ss (if b < sqQ pull s then sqQ pull s else b)
    have hb : b ≤ (if b < sqQ pull s then sqQ pull s else b) ∧ sqQ pull s ≤ (if b < sqQ pull s then sqQ pull s else b) := by
      split
      · rename_i c; exact ⟨Rat.le_of_lt c, Rat.le_refl⟩
      · rename_i c; exact ⟨Rat.le_refl, Rat.not_lt.mp c⟩
    refine ⟨fun t ht => ?_, Rat.le_trans hb.1 h2, ?_⟩
    · rcases List.mem_cons.mp ht with rfl | ht
      · exact Rat.le_trans hb.2 h2
      · exact h1 t ht
    · rcases h3 with h3 | ⟨t, ht, h3⟩
      · rw [h3]
        split
        · exact .inr ⟨s, by simp, rfl⟩
        · exact .inl rfl
      · exact .inr ⟨t, by simp [ht], h3⟩
end
end TW

set_option Elab.async false
set_option linter.all false
set_option maxRecDepth 100000
/-! SL40: printed by gen.py: the law of k40 over data. -/
namespace TW
open PySem DL
/- row 277 -/
def L40_0 : FS := (sIf (fB (fBin gNotIn (fVarT 17) (fVarT 20)))
 (sRet (fC (.bool false)))
 sNext)
/- row 276 -/
def L40_1 : FS := (sSeq (sAsg (fOfN (nLc [18] (iLst (fOfN (nLst (fsCons (fBin gIx (fVarT 13) (fC (.int 0))) (fsCons (fBin gIx (fVarT 13) (fUn gNeg (fC (.int 1)))) fsNil))))) (gNm 18) fYes (fCall W__law_mul (faD (fCall W__law_mul (faD (fVar 5) (faD (fVar 5) faNil))) (faD (fCall W__law_add (faD (fTup (fsCons (fC (.int 1)) (fsCons (fC (.int 1)) fsNil))) (faD (fCall W__law_mul (faD (fVar 18) (faD (fVar 18) faNil))) faNil))) faNil))))) (gNm 20))
 L40_0)
/- row 274 -/
def L40_2 : FS := (sSeq (sIf (fNot (fTru (fCall W__law_same_k29 (faD (fCall W_greatest_pull (faD (fVar 3) (faD (fBlt bList (fsCons (fVarT 4) fsNil)) (faD (fVar 5) faNil)))) (faD (fVar 17) faNil)))))
 (sRet (fC (.bool false)))
 sNext)
 L40_1)
/- row 270 -/
def L40_3 : FS := (sSeq (sFrz 13 (sFor (iLst (fVar 13)) (gNm 18)
 (sSeq (sAsg (fCall W__law_mul (faD (fCall W__law_mul (faD (fVar 5) (faD (fVar 5) faNil))) (faD (fCall W__law_add (faD (fTup (fsCons (fC (.int 1)) (fsCons (fC (.int 1)) fsNil))) (faD (fCall W__law_mul (faD (fVar 18) (faD (fVar 18) faNil))) faNil))) faNil))) (gNm 19))
 (sIf (fTru (fCall W__law_less (faD (fVar 17) (faD (fVar 19) faNil))))
 (sAsg (fVar 19) (gNm 17))
 sNext))))
 L40_2)
/- row 269 -/
def L40_4 : FS := (sSeq (sAsg (fTup (fsCons (fC (.int 0)) (fsCons (fC (.int 1)) fsNil))) (gNm 17))
 L40_3)
/- row 265 -/
def L40_5 : FS := (sSeq (sFor (iRng (fsCons (fC (.int 1)) (fsCons (fBlt bLen (fsCons (fVarT 13) fsNil)) fsNil))) (gNm 14)
 (sSeq (sAsg (fCall W__law_total_k29 (faD (fOfN (nLc [21] (iLst (fVar 4)) (gNm 21) (fB (fBin gEq (fBin gIx (fVarT 21) (fC (.int 1))) (fBin gIx (fVarT 12) (fVarT 14)))) (fBin gIx (fVarT 21) (fC (.int 2))))) faNil)) (gNm 16))
 (sIf (fB (fBin gNe (fCall W__law_sub (faD (fBin gIx (fVarT 13) (fBin gSub (fVarT 14) (fC (.int 1)))) (faD (fBin gIx (fVarT 13) (fVarT 14)) faNil))) (fCall W__law_div (faD (fVar 16) (faD (fVar 5) faNil)))))
 (sRet (fC (.bool false)))
 sNext)))
 L40_4)
/- row 263 -/
def L40_6 : FS := (sSeq (sFrz 13 (sIf (fNot (fTru (fCall W__law_same_k29 (faD (fCall W_cable_slopes (faD (fVar 3) (faD (fBlt bList (fsCons (fVarT 4) fsNil)) (faD (fVar 5) faNil)))) (faD (fVar 13) faNil)))))
 (sRet (fC (.bool false)))
 sNext))
 L40_5)
/- row 260 -/
def L40_7 : FS := (sSeq (sFor (iRng (fsCons (fBin gSub (fBlt bLen (fsCons (fVarT 12) fsNil)) (fC (.int 1))) fsNil)) (gNm 14)
 (sSeq (sAsg (fCall W__law_sub (faD (fCall W__law_moment (faD (fVar 6) (faD (fVar 4) (faD (fVar 7) (faD (fBin gIx (fVarT 12) (fBin gAdd (fVarT 14) (fC (.int 1)))) faNil))))) (faD (fCall W__law_moment (faD (fVar 6) (faD (fVar 4) (faD (fVar 7) (faD (fBin gIx (fVarT 12) (fVarT 14)) faNil))))) faNil))) (gNm 15))
 (sApp 13 (fCall W__law_div (faD (fCall W__law_div (faD (fVar 15) (faD (fCall W__law_sub (faD (fBin gIx (fVarT 12) (fBin gAdd (fVarT 14) (fC (.int 1)))) (faD (fBin gIx (fVarT 12) (fVarT 14)) faNil))) faNil))) (faD (fVar 5) faNil))))))
 L40_6)
/- row 259 -/
def L40_8 : FS := (sSeq (sOwn 13 (nLst fsNil))
 L40_7)
/- row 258 -/
def L40_9 : FS := (sSeq (sAsg (fCall W__law_breaks (faD (fVar 3) (faD (fOfN (nLst fsNil)) (faD (fVar 4) faNil)))) (gNm 12))
 L40_8)
/- row 253 -/
def L40_10 : FS := (sSeq (sIf (fB (fBin gGt (fBin gIx (fVarT 9) (fC (.int 0))) (fC (.int 0))))
 (sSeq (sAsg (fCall W__law_ratio (faD (fBin gAdd (fC (.int 1)) (fCall W__law_draw (faPool 1 (faD (fC (.int 5)) faNil)))) (faD (fC (.int 2)) faNil))) (gNm 10))
 (sSeq (sAsg (fCall W_pull_for (faD (fVar 3) (faD (fBlt bList (fsCons (fVarT 4) fsNil)) (faD (fVar 8) (faD (fVar 10) faNil))))) (gNm 11))
 (sIf (fOr (fNot (fTru (fCall W__law_same_k29 (faD (fVar 11) (faD (fCall W__law_div (faD (fVar 9) (faD (fVar 10) faNil))) faNil))))) (fB (fBin gNe (fCall W_cable_sag (faD (fVar 3) (faD (fVar 4) (faD (fVar 11) (faD (fVar 8) faNil))))) (fVarT 10))))
 (sRet (fC (.bool false)))
 sNext)))
 sNext)
 L40_9)
/- row 251 -/
def L40_11 : FS := (sSeq (sIf (fNot (fTru (fCall W__law_same_k29 (faD (fCall W_cable_sag (faD (fVar 3) (faD (fBlt bList (fsCons (fVarT 4) fsNil)) (faD (fVar 5) (faD (fVar 8) faNil))))) (faD (fCall W__law_div (faD (fVar 9) (faD (fVar 5) faNil))) faNil)))))
 (sRet (fC (.bool false)))
 sNext)
 L40_10)
/- row 250 -/
def L40_12 : FS := (sSeq (sAsg (fCall W__law_moment (faD (fVar 6) (faD (fVar 4) (faD (fVar 7) (faD (fVar 8) faNil))))) (gNm 9))
 L40_11)
/- row 249 -/
def L40_13 : FS := (sSeq (sAsg (fCall W__law_part (faPool 1 (faD (fVar 3) (faD (fC (.int 11)) faNil)))) (gNm 8))
 L40_12)
/- row 248 -/
def L40_14 : FS := (sSeq (sAsg (fCall W__law_simple (faD (fVar 3) (faD (fVar 4) faNil))) (gNm 7))
 L40_13)
/- row 247 -/
def L40_15 : FS := (sSeq (sAsg (fOfN (nLst (fsCons (fTup (fsCons (fC (.int 0)) (fsCons (fC (.int 1)) fsNil))) (fsCons (fVar 3) fsNil)))) (gNm 6))
 L40_14)
/- row 246 -/
def L40_16 : FS := (sSeq (sAsg (fCall W__law_ratio (faD (fBin gAdd (fC (.int 1)) (fCall W__law_draw (faPool 1 (faD (fC (.int 9)) faNil)))) (faD (fBin gAdd (fC (.int 1)) (fCall W__law_draw (faPool 1 (faD (fC (.int 3)) faNil)))) faNil))) (gNm 5))
 L40_15)
/- row 245 -/
def L40_17 : FS := (sSeq (sAsg (fCall W__law_points (faPool 1 (faD (fVar 3) (faD (fC (.int 4)) faNil)))) (gNm 4))
 L40_16)
/- row 244 -/
def L40_18 : FS := (sSeq (sAsg (fCall W__law_length (faPool 1 faNil)) (gNm 3))
 L40_17)
/- row 243 -/
def L40_19 : FS := (sSeq (sDrop (fCall W__law_next (faPool 1 faNil)))
 L40_18)
/-- the law behind its first statement -/
def B_law_k40 : FS := (sSeq (sFor (iRng (fsCons (fC (.int 2)) fsNil)) (gNm 2)
 L40_19)
 (sRet (fC (.bool true))))
end TW

set_option Elab.async false
set_option linter.all false
set_option maxRecDepth 100000
set_option maxHeartbeats 400000
set_option exponentiation.threshold 10000
/-! K40: the law of cables over data. -/
namespace TW
open PySem DL
def P40 (e : DL.Env) : Prop := ∃ l : List Slot, e = .un :: .pool :: l ∧ l.length = 20
def wAt (ls : List Ld) (z : Rat) : Rat := tot ((ls.filter fun l => decide (l.lo = z)).map Ld.f)
theorem wAt_cons (l : Ld) (ls : List Ld) (z : Rat) : wAt (l :: ls) z = (if l.lo = z then l.f else 0) + wAt ls z := by
  unfold wAt
  by_cases h : l.lo = z
  · rw [List.filter_cons_of_pos (by simpa using h), List.map_cons, tot_cons, if_pos h]
  · rw [List.filter_cons_of_neg (by simpa using h), if_neg h]; grind
theorem drop_loads {a b : Rat} (hab : a < b) : ∀ ls : List Ld, (∀ l ∈ ls, l.lo ≤ a ∨ b ≤ l.lo) → tot (ls.map fun l => if b < l.lo then 0 else l.f) - tot (ls.map fun l => if a < l.lo then 0 else l.f) = wAt ls b
  | [], _ => by show (0 : Rat) - 0 = 0; grind
  | l :: ls, h => by
    have ih := drop_loads hab ls fun q hq => h q (by simp [hq])
    rw [List.map_cons, List.map_cons, tot_cons, tot_cons, wAt_cons]
    have e : (if b < l.lo then 0 else l.f) - (if a < l.lo then 0 else l.f) = (if l.lo = b then l.f else 0) := by
      rcases h l (by simp) with c | c
      · rw [if_neg (by grind), if_neg (by grind), if_neg (by grind)]; grind
      · rw [if_pos (show a < l.lo by grind)]
        by_cases d : l.lo = b
        · rw [if_pos d, if_neg (by grind)]; grind
        · rw [if_neg d, if_pos (by grind)]; grind
    grind
section
variable {L x y pull : Rat} {ls : List Ld} {Q : D → Prop}
theorem Cb.srt (L : Rat) (ls : List Ld) : Srt (brk L ls) := ord_srt _
theorem Cb.slen (L pull : Rat) (ls : List Ld) : (slopes L pull ls).length = (brk L ls).length - 1 := by unfold slopes; rw [List.length_map, List.length_zip, List.length_tail]; omega
theorem Cb.drop (h : Cb L ls) (hp : pull ≠ 0) {k : Nat} (hk : k + 1 < (slopes L pull ls).length) : (slopes L pull ls)[k] - (slopes L pull ls)[k + 1] = wAt ls ((brk L ls)[k + 1]'(by have := Cb.slen L pull ls; omega)) / pull := by
  have hl := Cb.slen L pull ls
  have srt := Cb.srt L ls
  have mem : ∀ z, z ∈ brk L ls ↔ z ∈ cuts L [0, L] ls := fun z => ord_mem
  have h1 : k + 1 < (brk L ls).length := by omega
  have h2 : k + 2 < (brk L ls).length := by omega
  have hz : ∀ i (hi : i < (slopes L pull ls).length), (slopes L pull ls)[i] = slB L ls ((brk L ls)[i]'(by omega)) / pull := fun i hi => by
    have hzz : i < ((brk L ls).zip (brk L ls).tail).length := by rw [List.length_zip, List.length_tail]; omega
    have := (h.slq hp (List.getElem_mem hzz)).1
    simp only [slopes, List.getElem_map]
    rw [this, List.getElem_zip]
  rw [hz k (by omega), hz (k + 1) hk]
  have lt1 := List.pairwise_iff_getElem.mp srt k (k + 1) (by omega) h1 (by omega)
  have lt2 := List.pairwise_iff_getElem.mp srt (k + 1) (k + 2) h1 h2 (by omega)
  have c0 := h.bm.cuts _ ((mem _).mp (List.getElem_mem (show k < (brk L ls).length by omega)))
  have c2 := h.bm.cuts _ ((mem _).mp (List.getElem_mem h2))
  have nxt := srt_next srt h1
  have dl := drop_loads lt1 ls fun l hl => nxt l.lo ((mem _).mpr (by
    unfold cuts
    rw [List.mem_append]
    exact .inr (List.mem_flatten.mpr ⟨_, List.mem_map.mpr ⟨l, hl, rfl⟩, by unfold Ld.cuts; rw [if_pos (h.ok l hl).pt]; simp⟩)))
  generalize (brk L ls)[k] = p0 at *
  generalize (brk L ls)[k + 1] = p1 at *
  generalize (brk L ls)[k + 2] = p2 at *
  have e : slB L ls p0 - slB L ls p1 = wAt ls p1 := by
    unfold slB
    rw [if_neg (show ¬ p0 < 0 by grind), if_neg (show ¬ p1 < 0 by grind), if_pos (show p0 < L by grind), if_pos (show p1 < L by grind)]
    grind
  rw [← e]
  grind
theorem wAt_nonneg (h : ∀ l ∈ ls, 0 ≤ l.f) (z : Rat) : 0 ≤ wAt ls z := by
  induction ls with
  | nil => exact Rat.le_refl
  | cons l ls ih =>
    rw [wAt_cons]
    have i1 := ih fun q hq => h q (by simp [hq])
    have i2 := h l (by simp)
    split <;> grind
theorem Cb.desc (h : Cb L ls) (hp : 0 < pull) : ∀ i j (hi : i < (slopes L pull ls).length) (hj : j < (slopes L pull ls).length), i ≤ j → (slopes L pull ls)[j] ≤ (slopes L pull ls)[i] := by
  intro i j hi hj hij
  induction j with
  | zero => have : i = 0 := by omega
            subst this; exact Rat.le_refl
  | succ j ih =>
    by_cases e : i = j + 1
    · subst e; exact Rat.le_refl
    · have h1 := ih (by omega) (by omega)
      have h2 := h.drop (by grind : pull ≠ 0) hj
      have h3 : 0 ≤ wAt ls ((brk L ls)[j + 1]'(by have := Cb.slen L pull ls; omega)) / pull := by
        rw [Rat.div_def]
        exact Rat.mul_nonneg (wAt_nonneg (fun l hl => (h.ok l hl).f0) _) (Rat.le_of_lt (Rat.inv_pos.mpr hp))
      rw [← h2] at h3
      grind
theorem sq_pos (s : Rat) : 0 ≤ s * s := by
  rcases Rat.le_total (a := 0) (b := s) with c | c
  · exact Rat.mul_nonneg c c
  · have := Rat.mul_nonneg (show 0 ≤ -s by grind) (show 0 ≤ -s by grind)
    grind
theorem sqQ_le {s t : Rat} (hp : 0 < pull) (h : s * s ≤ t * t) : sqQ pull s ≤ sqQ pull t := by
  unfold sqQ
  exact Rat.mul_le_mul_of_nonneg_left (by grind) (Rat.le_of_lt (Rat.mul_pos hp hp))
theorem sqQ_pos (hp : 0 < pull) (s : Rat) : 0 < sqQ pull s := by
  unfold sqQ
  have := sq_pos s
  exact Rat.mul_pos (Rat.mul_pos hp hp) (by grind)
theorem sq_mid {a b s : Rat} (h1 : b ≤ s) (h2 : s ≤ a) : s * s ≤ a * a ∨ s * s ≤ b * b := by
  rcases Rat.le_total (a := 0) (b := s) with c | c
  · left
    have e1 := Rat.mul_le_mul_of_nonneg_left h2 c
    have e2 := Rat.mul_le_mul_of_nonneg_right h2 (Rat.le_trans c h2)
    exact Rat.le_trans e1 e2
  · right
    have c' : 0 ≤ -s := by grind
    have h1' : -s ≤ -b := by grind
    have e1 := Rat.mul_le_mul_of_nonneg_left h1' c'
    have e2 := Rat.mul_le_mul_of_nonneg_right h1' (Rat.le_trans c' h1')
    have := Rat.le_trans e1 e2
    grind
/-- the greatest square is at an end -/
theorem Cb.at_ends (h : Cb L ls) (hp : 0 < pull) (hn : 0 < (slopes L pull ls).length) : mxQ pull (slopes L pull ls) = sqQ pull (slopes L pull ls)[0] ∨ mxQ pull (slopes L pull ls) = sqQ pull ((slopes L pull ls)[(slopes L pull ls).length - 1]'(by omega)) := by
  obtain ⟨h1, h2, h3⟩ := mx_fold pull (slopes L pull ls) 0
  have hd := h.desc hp
  have g0 := h1 _ (List.getElem_mem hn)
  have g1 := h1 _ (List.getElem_mem (show (slopes L pull ls).length - 1 < (slopes L pull ls).length by omega))
  have p0 := sqQ_pos hp (slopes L pull ls)[0]
  unfold mxQ
  rcases h3 with h3 | ⟨s, hs, h3⟩
  · rw [h3] at g0; grind
  · obtain ⟨k, hk, rfl⟩ := List.getElem_of_mem hs
    have d1 := hd 0 k hn hk (by omega)
    have d2 := hd k ((slopes L pull ls).length - 1) hk (by omega) (by omega)
    rcases sq_mid d2 d1 with c | c
    · left
      have := sqQ_le hp c
      rw [← h3] at this
      exact Rat.le_antisymm this g0
    · right
      have := sqQ_le hp c
      rw [← h3] at this
      exact Rat.le_antisymm this g1
theorem gIxL_last {xs : List D} {x : D} {K : D → Prop} (h : xs[xs.length - 1]? = some x) : gIx (.list xs) (.int (-1)) K = K x := by
  show need (L2.atI xs (-1)) K = _
  have hp : 0 < xs.length := by
    rcases Nat.eq_zero_or_pos xs.length with e | e
    · rw [List.getElem?_eq_none (by omega)] at h; cases h
    · exact e
  have : L2.atI xs (-1) = some x := by
    unfold L2.atI
    have e : L2.ixN xs.length (-1) = some (xs.length - 1) := by
      unfold L2.ixN
      rw [if_neg (by omega), if_pos (by omega)]
      congr 1
      omega
    rw [e]
    exact h
  rw [this]; rfl
theorem sz_sq {s : Rat} (hs : sz s ≤ 665) (sp : sz pull ≤ 5) : sz (sqQ pull s) ≤ 1345 := by
  have := sz_mul (pull * pull) (1 + s * s); have := sz_mul pull pull; have := sz_add 1 (s * s); have := sz_mul s s; have := sz_1
  unfold sqQ; omega
theorem sz_mx (sp : sz pull ≤ 5) : ∀ (ss : List Rat) (b : Rat), (∀ s ∈ ss, sz s ≤ 665) → sz b ≤ 1345 → sz (ss.foldl (fun b s => if b < sqQ pull s then sqQ pull s else b) b) ≤ 1345
  | [], b, _, hb => hb
  | s :: ss, b, hs, hb => by
    rw [List.foldl_cons]
    refine sz_mx sp ss _ (fun t ht => hs t (by simp [ht])) ?_
    split
    · exact sz_sq (hs s (by simp)) sp
    · exact hb
theorem Cb.sls (h : Cb L ls) (hp : pull ≠ 0) (sp : sz pull ≤ 5) : ∀ s ∈ slopes L pull ls, sz s ≤ 665 := fun s hs => by
  obtain ⟨p, hm, rfl⟩ := List.mem_map.mp hs
  exact h.slz hp sp hm
theorem Cb.greatest (h : Cb L ls) (hp : pull ≠ 0) (sp : sz pull ≤ 5) (q : Q (fr (mxQ pull (slopes L pull ls)))) : W_greatest_pull [.d (fr L), .d (.list (ls.map ld)), .d (fr pull)] Q := by
  have hs := h.sls hp sp
  simp [W_greatest_pull, B_greatest_pull]
  refine h.cable_slopes hp sp ?_
  refine loopL_mem (slopes L pull ls) (fun r e => ∃ (b : Rat) (s4 s5 : Slot), e = [.d (fr L), .d (.list (ls.map ld)), .d (fr pull), .d (fr b), s4, s5] ∧ sz b ≤ 1345 ∧ r.foldl (fun b s => if b < sqQ pull s then sqQ pull s else b) b = mxQ pull (slopes L pull ls)) ?_ ?_ _ ⟨0, .un, .un, rfl, by rw [sz_0]; decide, rfl⟩
  · rintro e ⟨b, s4, s5, rfl, _, hb⟩
    have hb : b = mxQ pull (slopes L pull ls) := hb
    subst hb
    exact q
  · rintro s r e nx hsm hnx ⟨b, s4, s5, rfl, zb, hb⟩
    have zs := hs s hsm
    have zq := sz_sq zs sp
    have g1 := sz_mul pull pull; have g2 := sz_mul s s; have g3 := sz_add 1 (s * s); have z1 := sz_1
    rw [List.foldl_cons] at hb
    simp
    rw [fr_1]
    refine w_times (by omega) (w_times (by omega) (w_plus (by omega) (w_times (by omega) ?_)))
    refine w_less (b := sqQ pull s) (by omega) ?_
    by_cases c : b < sqQ pull s
    · rw [if_pos c] at hb
      simp [c]
      exact hnx _ ⟨_, _, _, rfl, zq, hb⟩
    · rw [if_neg c] at hb
      simp [c]
      exact hnx _ ⟨_, _, _, rfl, zb, hb⟩
end
section
variable {E : DEnds} {s2 s3 s4 s5 s6 s7 s8 s9 s10 s11 s12 s13 s14 s15 s16 s17 s18 s19 s20 s21 : Slot} {L x pull : Rat} {ls : List Ld}
/-- rows 269 and on: the greatest pull -/
theorem k40_best (h : Cb L ls) (hp : 0 < pull) (sp : sz pull ≤ 5) (hn : 0 < (slopes L pull ls).length) (hnx : ∀ e, P40 e → E.nx e) :
    L40_4 E [.un, .pool, s2, .d (fr L), .d (.list (ls.map ld)), .d (fr pull), s6, s7, s8, s9, s10, s11, s12, .d (.list ((slopes L pull ls).map fr)), s14, s15, s16, s17, s18, s19, s20, s21] := by
  have hne : pull ≠ 0 := by grind
  have hs := h.sls hne sp
  have hmx := sz_mx sp (slopes L pull ls) 0 hs (by rw [sz_0]; decide)
  have ends := h.at_ends hp hn
  simp [L40_4, L40_3, frzE]
  refine loopL_mem (E := { nx := L40_2 E, rt := E.rt, bk := E.bk, ct := E.ct }) (slopes L pull ls) (fun r e => ∃ (b : Rat) (s18 s19 : Slot), e = [.un, .pool, s2, .d (fr L), .d (.list (ls.map ld)), .d (fr pull), s6, s7, s8, s9, s10, s11, s12, .d (.list ((slopes L pull ls).map fr)), s14, s15, s16, .d (fr b), s18, s19, s20, s21] ∧ sz b ≤ 1345 ∧ r.foldl (fun b s => if b < sqQ pull s then sqQ pull s else b) b = mxQ pull (slopes L pull ls)) ?_ ?_ _ ⟨0, s18, s19, rfl, by rw [sz_0]; decide, rfl⟩
  · rintro e ⟨b, s18, s19, rfl, zb, hb⟩
    have hb : b = mxQ pull (slopes L pull ls) := hb
    subst hb
    simp [L40_2]
    refine h.greatest hne sp (w_same_fr ?_)
    simp [L40_1]
    have g0 : ((slopes L pull ls).map fr)[0]? = some (fr (slopes L pull ls)[0]) := by rw [List.getElem?_map, List.getElem?_eq_getElem hn]; rfl
    have g1 : ((slopes L pull ls).map fr)[((slopes L pull ls).map fr).length - 1]? = some (fr ((slopes L pull ls)[(slopes L pull ls).length - 1]'(by omega))) := by rw [List.length_map, List.getElem?_map, List.getElem?_eq_getElem (by omega)]; rfl
    rw [show ((0 : Int)) = ((0 : Nat) : Int) from rfl, gIxL_n g0, gIxL_last g1]
    have y0 := hs _ (List.getElem_mem hn)
    have y1 := hs _ (List.getElem_mem (show (slopes L pull ls).length - 1 < (slopes L pull ls).length by omega))
    generalize (slopes L pull ls)[0] = a at *
    generalize (slopes L pull ls)[(slopes L pull ls).length - 1] = c at *
    rw [show [fr a, fr c] = [a, c].map fr from rfl]
    refine compL_map (φ := fun s => fr (sqQ pull s)) (by show 2 ≤ 16777216; decide) (fun s hsm R r => ?_) ?_
    · have zs : sz s ≤ 665 := by simp at hsm; rcases hsm with rfl | rfl <;> assumption
      have g1 := sz_mul pull pull; have g2 := sz_mul s s; have g3 := sz_add 1 (s * s); have z1 := sz_1
      simp
      rw [fr_1]
      refine w_lmul (by omega) (w_lmul (by omega) (w_ladd (by omega) (w_lmul (by omega) r)))
    · rw [show [a, c].map (fun s => fr (sqQ pull s)) = [sqQ pull a, sqQ pull c].map fr from rfl]
      simp only [L40_0, sIf_eq, fB_eq, fBin_eq, fVarT_S, fVarT_0, List.set_cons_succ, List.set_cons_zero, gNm_eq, gNotIn_l]
      refine ⟨ok_fr _, okD_frs, ?_⟩
      rw [inD_fr]
      have : decide (mxQ pull (slopes L pull ls) ∈ [sqQ pull a, sqQ pull c]) = true := by
        rw [decide_eq_true_eq]
        rcases ends with e | e <;> rw [e] <;> simp
      rw [this]
      simp
      exact hnx _ ⟨_, rfl, rfl⟩
  · rintro s r e nx hsm hnx1 ⟨b, s18, s19, rfl, zb, hb⟩
    have zs := hs s hsm
    have zq := sz_sq zs sp
    have g1 := sz_mul pull pull; have g2 := sz_mul s s; have g3 := sz_add 1 (s * s); have z1 := sz_1
    rw [List.foldl_cons] at hb
    simp
    rw [fr_1]
    refine w_lmul (by omega) (w_lmul (by omega) (w_ladd (by omega) (w_lmul (by omega) ?_)))
    refine w_lless (b := sqQ pull s) (by omega) ?_
    by_cases c : b < sqQ pull s
    · rw [if_pos c] at hb
      simp [c]
      exact hnx1 _ ⟨_, _, _, rfl, zq, hb⟩
    · rw [if_neg c] at hb
      simp [c]
      exact hnx1 _ ⟨_, _, _, rfl, zb, hb⟩
theorem rngD_from1 (n : Nat) : rngD 1 (n : Int) = (List.range (n - 1)).map fun k => .int ((k + 1 : Nat) : Int) := by
  unfold rngD
  rw [show ((n : Int) - 1).toNat = n - 1 by omega]
  refine List.map_congr_left fun k _ => ?_
  congr 1
  omega
/-- rows 265 and on: each slope falls by the load by the pull -/
theorem k40_falls (h : Cb L ls) (hp : 0 < pull) (sp : sz pull ≤ 5) (hn : 0 < (slopes L pull ls).length) (hnx : ∀ e, P40 e → E.nx e) :
    L40_5 E [.un, .pool, s2, .d (fr L), .d (.list (ls.map ld)), .d (fr pull), s6, s7, s8, s9, s10, s11, .d (.list ((brk L ls).map fr)), .d (.list ((slopes L pull ls).map fr)), s14, s15, s16, s17, s18, s19, s20, s21] := by
  have hne : pull ≠ 0 := by grind
  have hs := h.sls hne sp
  have hlen := h.len
  have hzl := h.zl
  have hsl : (slopes L pull ls).length < 3100 := by unfold slopes; rw [List.length_map]; exact hzl
  have hll : ls.length ≤ sizeLine := by show _ ≤ 16777216; omega
  have hb := Cb.slen L pull ls
  simp [L40_5]
  refine ⟨by omega, ?_⟩
  rw [rngD_from1]
  refine loopL_mem (E := { nx := L40_4 E, rt := E.rt, bk := E.bk, ct := E.ct }) (List.range ((slopes L pull ls).length - 1)) (enc := fun k => PyData.int ((k + 1 : Nat) : Int)) (fun r e => ∃ s14 s16 : Slot, e = [.un, .pool, s2, .d (fr L), .d (.list (ls.map ld)), .d (fr pull), s6, s7, s8, s9, s10, s11, .d (.list ((brk L ls).map fr)), .d (.list ((slopes L pull ls).map fr)), s14, s15, s16, s17, s18, s19, s20, s21]) ?_ ?_ _ ⟨s14, s16, rfl⟩
  · rintro e ⟨s14, s16, rfl⟩
    exact k40_best h hp sp hn hnx
  · rintro k r e nx hk hnx1 ⟨s14, s16, rfl⟩
    have hk' : k < (slopes L pull ls).length - 1 := by simpa using hk
    have hk : k + 1 < (slopes L pull ls).length := by omega
    have hd := h.drop hne hk
    have g1 : ∀ K : D → Prop, gIx (.list ((brk L ls).map fr)) (.int ((k : Int) + 1)) K = K (fr ((brk L ls)[k + 1]'(by omega))) := fun K => by
      rw [show (k : Int) + 1 = ((k + 1 : Nat) : Int) by omega]
      exact gIxL_n (by rw [List.getElem?_map, List.getElem?_eq_getElem (by omega)]; rfl)
    have g2 : ∀ K : D → Prop, gIx (.list ((slopes L pull ls).map fr)) (.int (k : Int)) K = K (fr (slopes L pull ls)[k]) := fun K => by
      exact gIxL_n (by rw [List.getElem?_map, List.getElem?_eq_getElem (by omega)]; rfl)
    have g3 : ∀ K : D → Prop, gIx (.list ((slopes L pull ls).map fr)) (.int ((k : Int) + 1)) K = K (fr (slopes L pull ls)[k + 1]) := fun K => by
      rw [show (k : Int) + 1 = ((k + 1 : Nat) : Int) by omega]
      exact gIxL_n (by rw [List.getElem?_map, List.getElem?_eq_getElem hk]; rfl)
    have y0 := hs _ (List.getElem_mem (show k < (slopes L pull ls).length by omega))
    have y1 := hs _ (List.getElem_mem hk)
    generalize (slopes L pull ls)[k] = a at *
    generalize (slopes L pull ls)[k + 1] = c at *
    generalize (brk L ls)[k + 1]'_ = z at *
    simp only [sSeq_eq, sAsg_eq, gNm_eq, List.set_cons_succ, List.set_cons_zero, fCall_eq, faD_eq, faNil_eq, fOfN_eq, nLc_eq, iLst_eq, fVar_S, fVar_0, wipe_cons, wipe_nil, Int.natCast_add, Int.natCast_one]
    refine compL_gen (p := fun l => decide (l.lo = z)) (φ := fun l => fr l.f) ls [] (by simpa using hll) (fun l hl R S r1 r2 => ?_) ?_
    · have q := (h.ok l hl).pt
      obtain ⟨pt, lo, hi, f⟩ := l
      simp only [] at q
      subst q
      by_cases e : lo = z
      · simp [ld, g1, eqD_fr, e]
        exact r1 (by simpa using e)
      · simp [ld, g1, eqD_fr, e]
        exact r2 (by simpa using e)
    · rw [List.nil_append, show List.map (fun l => fr l.f) (ls.filter fun l => decide (l.lo = z)) = ((ls.filter fun l => decide (l.lo = z)).map Ld.f).map fr by simp]
      have zw : szs ((ls.filter fun l => decide (l.lo = z)).map Ld.f) ≤ (ls.filter fun l => decide (l.lo = z)).length * 5 := szs_map_le fun l hl => by
        have := (h.ok l (List.mem_filter.mp hl).1).sf
        omega
      have zf : (ls.filter fun l => decide (l.lo = z)).length ≤ ls.length := List.length_filter_le _ _
      have zt := sz_tot ((ls.filter fun l => decide (l.lo = z)).map Ld.f)
      refine w_ltotal (by omega) ?_
      simp [g2, g3]
      refine w_lsub (a := a) (b := c) (by omega) ?_
      refine w_ldiv (a := tot ((ls.filter fun l => decide (l.lo = z)).map Ld.f)) (b := pull) hne (by omega) ?_
      refine ⟨ok_fr _, ok_fr _, ?_⟩
      rw [eqD_fr]
      have hd : a - c = tot ((ls.filter fun l => decide (l.lo = z)).map Ld.f) / pull := hd
      rw [if_pos (by rw [hd]; simp)]
      exact hnx1 _ ⟨_, _, rfl⟩
theorem okS_frs (xs : List Rat) (h : xs.length < 2 ^ 60) : okS 9 (.list (xs.map fr)) := okS_mono (n := 2) ⟨by rw [List.length_map]; exact h, fun x hx => by
  obtain ⟨a, _, rfl⟩ := List.mem_map.mp hx
  exact okS_fr a⟩ (by decide)
theorem brk_nil (L : Rat) (ls : List Ld) : ordQ (cuts L [] ls) = brk L ls := by
  refine srt_ext (ord_srt _) (ord_srt _) fun z => ?_
  unfold brk
  rw [ord_mem, ord_mem]
  unfold cuts
  simp
  grind
/-- rows 259 and on: the slopes -/
theorem k40_slopes (h : Cb L ls) (hp : 0 < pull) (sp : sz pull ≤ 5) (hn : 1 < (brk L ls).length) (hnx : ∀ e, P40 e → E.nx e) :
    L40_8 E [.un, .pool, s2, .d (fr L), .d (.list (ls.map ld)), .d (fr pull), .d (.list ([0, L].map fr)), .d (.list ((pp2 0 L ls).map fr)), s8, s9, s10, s11, .d (.list ((brk L ls).map fr)), s13, s14, s15, s16, s17, s18, s19, s20, s21] := by
  have hne : pull ≠ 0 := by grind
  have hzl := h.zl
  have hb := Cb.slen L pull ls
  have hsl : (slopes L pull ls).length < 3100 := by unfold slopes; rw [List.length_map]; exact hzl
  simp [L40_8, L40_7]
  refine ⟨by omega, by omega, ?_⟩
  rw [rngD_nat' _ (slopes L pull ls).length (by omega)]
  refine loopL_range (E := { nx := L40_6 E, rt := E.rt, bk := E.bk, ct := E.ct }) (slopes L pull ls).length (fun k e => ∃ s14 s15 : Slot, e = [.un, .pool, s2, .d (fr L), .d (.list (ls.map ld)), .d (fr pull), .d (.list ([0, L].map fr)), .d (.list ((pp2 0 L ls).map fr)), s8, s9, s10, s11, .d (.list ((brk L ls).map fr)), .own (((slopes L pull ls).take k).map fr), s14, s15, s16, s17, s18, s19, s20, s21]) ?_ ?_ _ ⟨s14, s15, rfl⟩
  · rintro e ⟨s14, s15, rfl⟩
    rw [List.take_of_length_le (Nat.le_refl _)]
    simp [L40_6, frzE]
    refine h.cable_slopes hne sp ?_
    refine w_same (okS_frs _ (by omega)) (okS_frs _ (by omega)) (fun _ => ?_) (fun e => absurd rfl e)
    simp
    exact k40_falls h hp sp (by omega) hnx
  · rintro k hk e nx hnx1 ⟨s14, s15, rfl⟩
    have hk1 : k + 1 < (brk L ls).length := by omega
    have hzz : k < ((brk L ls).zip (brk L ls).tail).length := by rw [List.length_zip, List.length_tail]; omega
    have hm := List.getElem_mem hzz
    have ez : ((brk L ls).zip (brk L ls).tail)[k] = ((brk L ls)[k], (brk L ls)[k + 1]) := by simp
    have fin := fun s14 s15 : Slot => hnx1 _ ⟨s14, s15, rfl⟩
    have hts : (slopes L pull ls).take (k + 1) = (slopes L pull ls).take k ++ [slQ L pull ls ((brk L ls).zip (brk L ls).tail)[k]] := by
      rw [List.take_succ_eq_append_getElem hk]
      congr 2
      simp only [slopes, List.getElem_map]
    rw [hts] at fin
    have hsz : ((slopes L pull ls).take k).length < sizeLine := by rw [List.length_take]; show _ < 16777216; omega
    have g1 : ∀ K : D → Prop, gIx (.list ((brk L ls).map fr)) (.int (k : Int)) K = K (fr (brk L ls)[k]) := fun K => gIxL_n (by rw [List.getElem?_map, List.getElem?_eq_getElem (by omega)]; rfl)
    have g2 : ∀ K : D → Prop, gIx (.list ((brk L ls).map fr)) (.int ((k : Int) + 1)) K = K (fr (brk L ls)[k + 1]) := fun K => by
      rw [show (k : Int) + 1 = ((k + 1 : Nat) : Int) by omega]
      exact gIxL_n (by rw [List.getElem?_map, List.getElem?_eq_getElem hk1]; rfl)
    rw [ez] at hm fin
    obtain ⟨⟨_, _, z1⟩, ⟨_, _, z2⟩⟩ := h.mem hm
    obtain ⟨_, lt⟩ := h.diff hm
    obtain ⟨_, e2⟩ := h.slq hne hm
    simp only [] at z1 z2 lt e2
    generalize (brk L ls)[k] = p at *
    generalize (brk L ls)[k + 1] = q at *
    have m1 := h.msz (x := p) (by omega)
    have m2 := h.msz (x := q) (by omega)
    have t1 := sz_sub (MQ L ls q) (MQ L ls p); have t2 := sz_sub q p
    have t3 := sz_div (MQ L ls q - MQ L ls p) (q - p) (by grind)
    have mb := fun (y : Rat) (hy : sz y ≤ 9) => h.bm.mom N40 (x := y) (by omega) (by decide)
    have e0 : ∀ K : D → Prop, ∀ y : Rat, sz y ≤ 9 → K (fr (MQ L ls y)) → W__law_moment [.d (.list [fr 0, fr L]), .d (.list (ls.map ld)), .d (.list [fr (push1 0 L ls), fr (push2 0 L ls)]), .d (fr y)] K := fun K y hy r => w_lmoment (ss := [0, L]) (ps := pp2 0 L ls) (mb y hy) r
    simp [g1, g2, sApp, mutS]
    refine e0 _ q z2 (e0 _ p z1 (w_lsub (by omega) (w_lsub (by omega) (w_ldiv (by grind) (by omega) (w_ldiv hne (by omega) ⟨?_, ?_⟩)))))
    · simpa using hsz
    · rw [e2]
      simpa using fin _ _
/-- rows 258 and on -/
theorem k40_breaks (h : Cb L ls) (hp : 0 < pull) (sp : sz pull ≤ 5) (hnx : ∀ e, P40 e → E.nx e) :
    L40_9 E [.un, .pool, s2, .d (fr L), .d (.list (ls.map ld)), .d (fr pull), .d (.list ([0, L].map fr)), .d (.list ((pp2 0 L ls).map fr)), s8, s9, s10, s11, s12, s13, s14, s15, s16, s17, s18, s19, s20, s21] := by
  have cb : CutB 18 L [] ls := ⟨h.bm.lbn N40, by simp, by have := h.sL; omega, by decide, by decide, by simp, by have := h.len; omega⟩
  have hn : 1 < (brk L ls).length := by
    have m0 : (0 : Rat) ∈ brk L ls := ord_mem.mpr (by simp [cuts])
    have mL : L ∈ brk L ls := ord_mem.mpr (by simp [cuts])
    have := h.L0
    obtain ⟨i, hi, e1⟩ := List.getElem_of_mem m0
    obtain ⟨j, hj, e2⟩ := List.getElem_of_mem mL
    have : i ≠ j := fun e => by subst e; rw [e1] at e2; grind
    omega
  simp [L40_9]
  refine w_breaks (ss := []) cb ?_
  rw [brk_nil]
  exact k40_slopes h hp sp hn hnx
/-- rows 248 and on -/
theorem k40_sag (h : Cb L ls) (hp : 0 < pull) (sp : sz pull ≤ 5) (hnx : ∀ e, P40 e → E.nx e) :
    L40_14 E [.un, .pool, s2, .d (fr L), .d (.list (ls.map ld)), .d (fr pull), .d (.list ([0, L].map fr)), s7, s8, s9, s10, s11, s12, s13, s14, s15, s16, s17, s18, s19, s20, s21] := by
  have hne : pull ≠ 0 := by grind
  have hL0 := Rat.le_of_lt h.L0
  have sL := h.sL
  simp [L40_14]
  refine w_lsimple h.bm N40 ?_
  simp [L40_13]
  refine w_lpartJ (k := 11) (j := 4) (by decide) (by decide) (by decide) hL0 (by omega) fun x x0 xL sx => ?_
  have sx : sz x ≤ 9 := by omega
  have hm := h.msz (x := x) (by omega)
  have hm' : sz (momQ [0, L] (pp2 0 L ls) ls x) ≤ 320 := hm
  simp [L40_12]
  refine w_lmoment (ss := [0, L]) (ps := pp2 0 L ls) (h.bm.mom N40 (x := x) (by omega) (by decide)) ?_
  simp [L40_11]
  refine h.sag x0 xL (by omega) hne (by omega) (w_ldiv hne (by omega) (w_same_fr ?_))
  simp [L40_10]
  simp only [fr, gIxT_0, gGt_i]
  show if decide (0 < (MQ L ls x).num) = true then _ else _
  by_cases c : 0 < (MQ L ls x).num
  · rw [if_pos (by simpa using c)]
    refine w_draw (by decide) (by decide) fun a ha => ?_
    rw [gAdd_i]
    refine w_lratio (k := 4) (by decide) (by omega) (by decide) (by decide) ?_
    have y0 := divInt_pos (p := 1 + (a : Int)) (q := 2) (by decide) (by omega)
    have sy := sz_divInt (k := 4) (p := 1 + (a : Int)) (q := 2) (by decide) (by omega) (by decide)
    generalize Rat.divInt (1 + (a : Int)) 2 = y at y0 sy
    have yne : y ≠ 0 := by grind
    have hMpos : MQ L ls x ≠ 0 := fun e => by rw [e] at c; exact absurd c (by decide)
    have sd := sz_div (MQ L ls x) y yne
    have dne : MQ L ls x / y ≠ 0 := fun e => hMpos (by have := Rat.div_mul_cancel (a := MQ L ls x) yne; rw [e] at this; rw [← this]; grind)
    have e1 : MQ L ls x / (MQ L ls x / y) = y := by
      have := Rat.div_mul_cancel (a := MQ L ls x) dne
      have h2 := Rat.div_mul_cancel (a := MQ L ls x) yne
      grind
    refine h.pullFor x0 xL (by omega) yne (by omega) ?_
    refine w_ldiv yne (by omega) (w_same_fr ?_)
    simp
    refine h.sag x0 xL (by omega) dne (by omega) ?_
    rw [e1]
    simp [eqD_fr_self]
    exact k40_breaks h hp sp hnx
  · rw [if_neg (by simpa using c)]
    exact k40_breaks h hp sp hnx
/-- one turn -/
theorem k40_turn (hnx : ∀ e, P40 e → E.nx e) : L40_19 E [.un, .pool, s2, s3, s4, s5, s6, s7, s8, s9, s10, s11, s12, s13, s14, s15, s16, s17, s18, s19, s20, s21] := by
  simp [L40_19]
  refine w_next ?_
  simp [L40_18]
  refine w_llength fun L hL sL => ?_
  simp [L40_17]
  refine w_lpoints (most := 4) (Rat.le_of_lt hL) sL (by decide) (by decide) fun ls h0 hl hok => ?_
  simp [L40_16]
  refine w_draw (by decide) (by decide) fun a ha => ?_
  simp
  refine w_draw (by decide) (by decide) fun b hb => ?_
  simp
  refine w_lratio (k := 5) (by omega) (by omega) (by omega) (by decide) ?_
  have p0 := divInt_pos (p := 1 + (a : Int)) (q := 1 + (b : Int)) (by omega) (by omega)
  have sp := sz_divInt (k := 5) (p := 1 + (a : Int)) (q := 1 + (b : Int)) (by omega) (by omega) (by omega)
  generalize Rat.divInt (1 + (a : Int)) (1 + (b : Int)) = pull at p0 sp
  simp [L40_15]
  rw [fr_0]
  exact k40_sag ⟨hL, sL, hl, hok⟩ p0 sp hnx
theorem law40 (h : E.rt (.bool true)) : B_law_k40 E (.un :: .pool :: List.replicate 20 .un) := by
  simp only [B_law_k40, sSeq_eq, sFor_eq, iRng_eq, fsCons_eq, fsNil_eq, fC_eq]
  refine ⟨by decide, by decide, ?_⟩
  rw [show rngD 0 2 = rngD 0 ((2 : Nat) : Int) from rfl]
  refine loopL_range (E := { nx := sRet (fC (.bool true)) E, rt := E.rt, bk := E.bk, ct := E.ct }) 2 (fun _ e => P40 e) (fun e _ => h) (fun k hk e nx h1 h2 => ?_) _ ⟨_, rfl, by simp⟩
  obtain ⟨l, rfl, hl⟩ := h2
  match l, hl with
  | [s2, s3, s4, s5, s6, s7, s8, s9, s10, s11, s12, s13, s14, s15, s16, s17, s18, s19, s20, s21], _ => exact k40_turn (fun e he => h1 e he)
end
end TW

set_option Elab.async false
set_option linter.all false
set_option maxRecDepth 100000
set_option maxHeartbeats 4000000
namespace Lkk40
open PySem PySem.Spec PyProof.Rows L2 DL TW
def topS (i : Nat) : Stmt := PySem.Challenge.pw_trusswork_k40_whole_cables.main.body.getD i (.Pass ⟨0, 0, 0, 0⟩)
abbrev s_frac : Stmt := topS 4
abbrev s_plus : Stmt := topS 5
abbrev s_minus : Stmt := topS 6
abbrev s_times : Stmt := topS 7
abbrev s_over : Stmt := topS 8
abbrev s_less : Stmt := topS 9
abbrev s_sum_of : Stmt := topS 10
abbrev s_value_at : Stmt := topS 12
abbrev s_whole_of : Stmt := topS 15
abbrev s_two_pushes : Stmt := topS 16
abbrev s_places_in : Stmt := topS 17
abbrev s_moment_of : Stmt := topS 18
abbrev s_spread_moment : Stmt := topS 19
abbrev s_pieces : Stmt := topS 20
abbrev s_moment_at : Stmt := topS 21
abbrev s_hinged : Stmt := topS 23
abbrev s_cable_sag : Stmt := topS 24
abbrev s_pull_for : Stmt := topS 25
abbrev s_cable_slopes : Stmt := topS 26
abbrev s_greatest_pull : Stmt := topS 27
abbrev s__law_mixed : Stmt := topS 29
abbrev s__law_rest : Stmt := topS 30
abbrev s__law_pool : Stmt := topS 31
abbrev s__law_next : Stmt := topS 32
abbrev s__law_gcd : Stmt := topS 33
abbrev s__law_ratio : Stmt := topS 34
abbrev s__law_draw : Stmt := topS 35
abbrev s__law_length : Stmt := topS 36
abbrev s__law_part : Stmt := topS 37
abbrev s__law_points : Stmt := topS 38
abbrev s__law_mul : Stmt := topS 39
abbrev s__law_add : Stmt := topS 40
abbrev s__law_sub : Stmt := topS 41
abbrev s__law_force : Stmt := topS 42
abbrev s__law_div : Stmt := topS 43
abbrev s__law_total : Stmt := topS 44
abbrev s__law_simple : Stmt := topS 45
abbrev s__law_less : Stmt := topS 46
abbrev s__law_turning : Stmt := topS 47
abbrev s__law_moment : Stmt := topS 48
abbrev s__law_same : Stmt := topS 49
abbrev s__law_breaks : Stmt := topS 50
abbrev s_law : Stmt := topS 51
theorem sc_frac : FnScope ["p", "q", "shared"] ["p", "q"] (defScope s_frac) := ⟨rfl, rfl, rfl, by decide +kernel, rfl, by decide +kernel, by decide +kernel⟩
theorem sc_plus : FnScope ["a", "b"] ["a", "b"] (defScope s_plus) := ⟨rfl, rfl, rfl, by decide +kernel, rfl, by decide +kernel, by decide +kernel⟩
theorem sc_minus : FnScope ["a", "b"] ["a", "b"] (defScope s_minus) := ⟨rfl, rfl, rfl, by decide +kernel, rfl, by decide +kernel, by decide +kernel⟩
theorem sc_times : FnScope ["a", "b"] ["a", "b"] (defScope s_times) := ⟨rfl, rfl, rfl, by decide +kernel, rfl, by decide +kernel, by decide +kernel⟩
theorem sc_over : FnScope ["a", "b"] ["a", "b"] (defScope s_over) := ⟨rfl, rfl, rfl, by decide +kernel, rfl, by decide +kernel, by decide +kernel⟩
theorem sc_less : FnScope ["a", "b"] ["a", "b"] (defScope s_less) := ⟨rfl, rfl, rfl, by decide +kernel, rfl, by decide +kernel, by decide +kernel⟩
theorem sc_sum_of : FnScope ["numbers", "found", "number"] ["numbers"] (defScope s_sum_of) := ⟨rfl, rfl, rfl, by decide +kernel, rfl, by decide +kernel, by decide +kernel⟩
theorem sc_value_at : FnScope ["told", "x", "found", "number"] ["told", "x"] (defScope s_value_at) := ⟨rfl, rfl, rfl, by decide +kernel, rfl, by decide +kernel, by decide +kernel⟩
theorem sc_whole_of : FnScope ["load"] ["load"] (defScope s_whole_of) := ⟨rfl, rfl, rfl, by decide +kernel, rfl, by decide +kernel, by decide +kernel⟩
theorem sc_two_pushes : FnScope ["length", "supports", "loads", "first", "second", "told", "right", "push", "load", "force", "place", "_"] ["length", "supports", "loads"] (defScope s_two_pushes) := ⟨rfl, rfl, rfl, by decide +kernel, rfl, by decide +kernel, by decide +kernel⟩
theorem sc_places_in : FnScope ["length", "supports", "loads", "found", "load", "told", "place", "at"] ["length", "supports", "loads"] (defScope s_places_in) := ⟨rfl, rfl, rfl, by decide +kernel, rfl, by decide +kernel, by decide +kernel⟩
theorem sc_moment_of : FnScope ["force", "place"] ["force", "place"] (defScope s_moment_of) := ⟨rfl, rfl, rfl, by decide +kernel, rfl, by decide +kernel, by decide +kernel⟩
theorem sc_spread_moment : FnScope ["load", "first", "_", "low", "high", "force", "weight", "middle", "half"] ["load", "first"] (defScope s_spread_moment) := ⟨rfl, rfl, rfl, by decide +kernel, rfl, by decide +kernel, by decide +kernel⟩
theorem sc_pieces : FnScope ["length", "supports", "loads", "pushes", "places", "found", "first", "last", "told", "place", "push", "load", "own", "a", "b"] ["length", "supports", "loads", "pushes"] (defScope s_pieces) := ⟨rfl, rfl, rfl, by decide +kernel, rfl, by decide +kernel, by decide +kernel⟩
theorem sc_moment_at : FnScope ["told", "x", "_", "last", "moment"] ["told", "x"] (defScope s_moment_at) := ⟨rfl, rfl, rfl, by decide +kernel, rfl, by decide +kernel, by decide +kernel⟩
theorem sc_hinged : FnScope ["length", "loads", "ends"] ["length", "loads"] (defScope s_hinged) := ⟨rfl, rfl, rfl, by decide +kernel, rfl, by decide +kernel, by decide +kernel⟩
theorem sc_cable_sag : FnScope ["length", "loads", "pull", "x"] ["length", "loads", "pull", "x"] (defScope s_cable_sag) := ⟨rfl, rfl, rfl, by decide +kernel, rfl, by decide +kernel, by decide +kernel⟩
theorem sc_pull_for : FnScope ["length", "loads", "x", "sag"] ["length", "loads", "x", "sag"] (defScope s_pull_for) := ⟨rfl, rfl, rfl, by decide +kernel, rfl, by decide +kernel, by decide +kernel⟩
theorem sc_cable_slopes : FnScope ["length", "loads", "pull", "found", "first", "last", "moment", "low", "high"] ["length", "loads", "pull"] (defScope s_cable_slopes) := ⟨rfl, rfl, rfl, by decide +kernel, rfl, by decide +kernel, by decide +kernel⟩
theorem sc_greatest_pull : FnScope ["length", "loads", "pull", "best", "slope", "square"] ["length", "loads", "pull"] (defScope s_greatest_pull) := ⟨rfl, rfl, rfl, by decide +kernel, rfl, by decide +kernel, by decide +kernel⟩
theorem sc__law_mixed : FnScope ["number", "place", "first", "second", "third"] ["number", "place"] (defScope s__law_mixed) := ⟨rfl, rfl, rfl, by decide +kernel, rfl, by decide +kernel, by decide +kernel⟩
theorem sc__law_rest : FnScope ["script", "place", "fills", "number"] ["script", "place", "fills"] (defScope s__law_rest) := ⟨rfl, rfl, rfl, by decide +kernel, rfl, by decide +kernel, by decide +kernel⟩
theorem sc__law_pool : FnScope ["script"] ["script"] (defScope s__law_pool) := ⟨rfl, rfl, rfl, by decide +kernel, rfl, by decide +kernel, by decide +kernel⟩
theorem sc__law_next : FnScope ["pool"] ["pool"] (defScope s__law_next) := ⟨rfl, rfl, rfl, by decide +kernel, rfl, by decide +kernel, by decide +kernel⟩
theorem sc__law_gcd : FnScope ["one", "other", "k"] ["one", "other"] (defScope s__law_gcd) := ⟨rfl, rfl, rfl, by decide +kernel, rfl, by decide +kernel, by decide +kernel⟩
theorem sc__law_ratio : FnScope ["p", "q", "factor"] ["p", "q"] (defScope s__law_ratio) := ⟨rfl, rfl, rfl, by decide +kernel, rfl, by decide +kernel, by decide +kernel⟩
theorem sc__law_draw : FnScope ["pool", "limit", "value"] ["pool", "limit"] (defScope s__law_draw) := ⟨rfl, rfl, rfl, by decide +kernel, rfl, by decide +kernel, by decide +kernel⟩
theorem sc__law_length : FnScope ["pool"] ["pool"] (defScope s__law_length) := ⟨rfl, rfl, rfl, by decide +kernel, rfl, by decide +kernel, by decide +kernel⟩
theorem sc__law_part : FnScope ["pool", "length", "k"] ["pool", "length", "k"] (defScope s__law_part) := ⟨rfl, rfl, rfl, by decide +kernel, rfl, by decide +kernel, by decide +kernel⟩
theorem sc__law_points : FnScope ["pool", "length", "most", "found", "turn"] ["pool", "length", "most"] (defScope s__law_points) := ⟨rfl, rfl, rfl, by decide +kernel, rfl, by decide +kernel, by decide +kernel⟩
theorem sc__law_mul : FnScope ["one", "other"] ["one", "other"] (defScope s__law_mul) := ⟨rfl, rfl, rfl, by decide +kernel, rfl, by decide +kernel, by decide +kernel⟩
theorem sc__law_add : FnScope ["one", "other"] ["one", "other"] (defScope s__law_add) := ⟨rfl, rfl, rfl, by decide +kernel, rfl, by decide +kernel, by decide +kernel⟩
theorem sc__law_sub : FnScope ["one", "other"] ["one", "other"] (defScope s__law_sub) := ⟨rfl, rfl, rfl, by decide +kernel, rfl, by decide +kernel, by decide +kernel⟩
theorem sc__law_force : FnScope ["load"] ["load"] (defScope s__law_force) := ⟨rfl, rfl, rfl, by decide +kernel, rfl, by decide +kernel, by decide +kernel⟩
theorem sc__law_div : FnScope ["one", "other"] ["one", "other"] (defScope s__law_div) := ⟨rfl, rfl, rfl, by decide +kernel, rfl, by decide +kernel, by decide +kernel⟩
theorem sc__law_total : FnScope ["numbers", "found", "number"] ["numbers"] (defScope s__law_total) := ⟨rfl, rfl, rfl, by decide +kernel, rfl, by decide +kernel, by decide +kernel⟩
theorem sc__law_simple : FnScope ["length", "loads", "right", "load", "at", "push"] ["length", "loads"] (defScope s__law_simple) := ⟨rfl, rfl, rfl, by decide +kernel, rfl, by decide +kernel, by decide +kernel⟩
theorem sc__law_less : FnScope ["one", "other"] ["one", "other"] (defScope s__law_less) := ⟨rfl, rfl, rfl, by decide +kernel, rfl, by decide +kernel, by decide +kernel⟩
theorem sc__law_turning : FnScope ["load", "x", "low", "high", "top", "middle"] ["load", "x"] (defScope s__law_turning) := ⟨rfl, rfl, rfl, by decide +kernel, rfl, by decide +kernel, by decide +kernel⟩
theorem sc__law_moment : FnScope ["supports", "loads", "pushes", "x", "found", "k", "load"] ["supports", "loads", "pushes", "x"] (defScope s__law_moment) := ⟨rfl, rfl, rfl, by decide +kernel, rfl, by decide +kernel, by decide +kernel⟩
theorem sc__law_same : FnScope ["actual", "due", "key", "k"] ["actual", "due"] (defScope s__law_same) := ⟨rfl, rfl, rfl, by decide +kernel, rfl, by decide +kernel, by decide +kernel⟩
theorem sc__law_breaks : FnScope ["length", "supports", "loads", "told", "load", "found", "x", "at", "y"] ["length", "supports", "loads"] (defScope s__law_breaks) := ⟨rfl, rfl, rfl, by decide +kernel, rfl, by decide +kernel, by decide +kernel⟩
theorem sc_law : FnScope ["script", "pool", "turn", "length", "loads", "pull", "ends", "pushes", "x", "moment", "sag_of", "told", "breaks", "slopes", "k", "rise", "weight", "best", "slope", "square", "at_ends", "load"] ["script"] (defScope s_law) := ⟨rfl, rfl, rfl, by decide +kernel, rfl, by decide +kernel, by decide +kernel⟩
/-- what stands behind the top -/
structure Txt (K : PySem.W.Frag) (mg : Str → Option Value) : Prop where
  M_abs : mg "abs" = none
  M_bool : mg "bool" = none
  M_dict : mg "dict" = none
  M_gcd : mg "gcd" = some (.builtin "math.gcd")
  M_int : mg "int" = none
  M_isinstance : mg "isinstance" = none
  M_len : mg "len" = none
  M_list : mg "list" = none
  M_range : mg "range" = none
  M_str : mg "str" = none
  M_tuple : mg "tuple" = none
  M_zip : mg "zip" = none
  C_NOUGHT : KC K mg "NOUGHT" (.tuple [.int 0, .int 1])
  C_UNIT : KC K mg "UNIT" (.tuple [.int 1, .int 1])
  C_HALF : KC K mg "HALF" (.tuple [.int 1, .int 2])
  D_frac : DefAt K mg "frac" s_frac
  D_plus : DefAt K mg "plus" s_plus
  D_minus : DefAt K mg "minus" s_minus
  D_times : DefAt K mg "times" s_times
  D_over : DefAt K mg "over" s_over
  D_less : DefAt K mg "less" s_less
  D_sum_of : DefAt K mg "sum_of" s_sum_of
  D_value_at : DefAt K mg "value_at" s_value_at
  D_whole_of : DefAt K mg "whole_of" s_whole_of
  D_two_pushes : DefAt K mg "two_pushes" s_two_pushes
  D_places_in : DefAt K mg "places_in" s_places_in
  D_moment_of : DefAt K mg "moment_of" s_moment_of
  D_spread_moment : DefAt K mg "spread_moment" s_spread_moment
  D_pieces : DefAt K mg "pieces" s_pieces
  D_moment_at : DefAt K mg "moment_at" s_moment_at
  D_hinged : DefAt K mg "hinged" s_hinged
  D_cable_sag : DefAt K mg "cable_sag" s_cable_sag
  D_pull_for : DefAt K mg "pull_for" s_pull_for
  D_cable_slopes : DefAt K mg "cable_slopes" s_cable_slopes
  D_greatest_pull : DefAt K mg "greatest_pull" s_greatest_pull
  D__law_mixed : DefAt K mg "_law_mixed" s__law_mixed
  D__law_rest : DefAt K mg "_law_rest" s__law_rest
  D__law_pool : DefAt K mg "_law_pool" s__law_pool
  D__law_next : DefAt K mg "_law_next" s__law_next
  D__law_gcd : DefAt K mg "_law_gcd" s__law_gcd
  D__law_ratio : DefAt K mg "_law_ratio" s__law_ratio
  D__law_draw : DefAt K mg "_law_draw" s__law_draw
  D__law_length : DefAt K mg "_law_length" s__law_length
  D__law_part : DefAt K mg "_law_part" s__law_part
  D__law_points : DefAt K mg "_law_points" s__law_points
  D__law_mul : DefAt K mg "_law_mul" s__law_mul
  D__law_add : DefAt K mg "_law_add" s__law_add
  D__law_sub : DefAt K mg "_law_sub" s__law_sub
  D__law_force : DefAt K mg "_law_force" s__law_force
  D__law_div : DefAt K mg "_law_div" s__law_div
  D__law_total : DefAt K mg "_law_total" s__law_total
  D__law_simple : DefAt K mg "_law_simple" s__law_simple
  D__law_less : DefAt K mg "_law_less" s__law_less
  D__law_turning : DefAt K mg "_law_turning" s__law_turning
  D__law_moment : DefAt K mg "_law_moment" s__law_moment
  D__law_same : DefAt K mg "_law_same" s__law_same
  D__law_breaks : DefAt K mg "_law_breaks" s__law_breaks
  D_law : DefAt K mg "law" s_law

section
variable {P : Program} {w : World} {K : PySem.W.Frag} {mg : Str → Option Value} {base : Heap}
theorem fnOk_mixed (T : Txt K mg) {f : Addr} {fd : FuncData} (F : FunD K "_law_mixed" "_law_mixed" (defArgs s__law_mixed) (defBody s__law_mixed) (defScope s__law_mixed) [] [] f fd) : FnOk P w K mg base CX0 1 f fd ["number", "place"] (spD K 2 W__law_mixed) := by
  have M_int := T.M_int; have sc := sc__law_mixed
  exact fnOk_def F sc fun cdv A outer s H E B hr =>
   (dss_cons (ds_set (i := 2) sc.nd rfl (.inl rfl) (de_mod (dr (de_bty call_int1 bd_int M_int (drs_cons (dr (de_add (dr (de_add (dr (de_mul (dr_var (i := 0) rfl (.inl rfl)) (dr de_int))) (dr (de_mul (dr_var (i := 1) rfl (.inl rfl)) (dr de_int))))) (dr de_int))) drs_nil))) (dr de_int)))
 (dss_cons (ds_set (i := 3) sc.nd rfl (.inl rfl) (de_mod (dr (de_bty call_int1 bd_int M_int (drs_cons (dr (de_add (dr (de_add (dr (de_mul (dr_var (i := 2) rfl (.inl rfl)) (dr_var (i := 2) rfl (.inl rfl)))) (dr (de_mul (dr de_int) (dr_var (i := 2) rfl (.inl rfl)))))) (dr_var (i := 1) rfl (.inl rfl)))) drs_nil))) (dr de_int)))
 (dss_cons (ds_set (i := 4) sc.nd rfl (.inl rfl) (de_mod (dr (de_bty call_int1 bd_int M_int (drs_cons (dr (de_add (dr (de_mul (dr_var (i := 3) rfl (.inl rfl)) (dr_var (i := 3) rfl (.inl rfl)))) (dr_var (i := 2) rfl (.inl rfl)))) drs_nil))) (dr de_int)))
 (dss_one (ds_ret (de_add (dr (de_mul (dr_var (i := 3) rfl (.inl rfl)) (dr de_int))) (dr_var (i := 4) rfl (.inl rfl))))))))
theorem fok__law_rest {f fm : Addr} {fd fdm : FuncData} (F : FunD K "_law_rest" "_law_rest" (defArgs s__law_rest) (defBody s__law_rest) (defScope s__law_rest) [] [] f fd) (T : Txt K mg)
   (GM : FnOk P w K mg base CX0 1 fm fdm ["number", "place"] spMixed) (mm : mg "_law_mixed" = some (.ref fm)) (km : PySem.W.keepIn K (.ref fm) = true) (bm : Binds K fdm ["number", "place"] []) :
   FnOk P w K mg base CX0 2 f fd ["script", "place", "fills"] (spRest K) := by
  refine F.ok sc__law_rest (fun vs H Q E h => ?_) (fun cdv A outer s H vs Q E hr h => ⟨_, PSs.nox (
    pss_cons (ps_set (i := 3) sc__law_rest.nd rfl (.inl rfl) pe_int)
    (PSs.wk (t' := tRest K) (pss_cons (ps_if (pt_cmpR op_gt (pe_callB call_len_seq rfl T.M_len boot_len (pa_cons (pv 0) pa_nil)) pe_int (nomark _))
        (pss_one (ps_set (i := 3) sc__law_rest.nd rfl (.inl rfl) (pe_callTy call_int1 rfl T.M_int (by decide +kernel) (pa_cons (pe_ix ix_seq (pv 0) (pe_op op_mod (pe_callTy call_int1 rfl T.M_int (by decide +kernel) (pa_cons (pv 1) pa_nil)) (pe_callB call_len_seq rfl T.M_len boot_len (pa_cons (pv 0) pa_nil))) (fun _ _ => rfl)) pa_nil)))) pss_nil)
    (PSs.wk (t' := tRest K) (pss_cons (ps_if (pt_cmpR op_lt (pv 3) pe_int (nomark _)) (pss_one (ps_set (i := 3) sc__law_rest.nd rfl (.inl rfl) (pe_op op_sub pe_int (pe_op op_mulA pe_int (pv 3))))) pss_nil)
    (PSs.wk (t' := tRest K) (pss_cons (ps_if (PW.pt (pw_and (pt_cmpR op_eq (pv 2) pe_int (nomark _)) (pw_and (pt_cmpR op_lt (pv 1) (pe_callB call_len_seq rfl T.M_len boot_len (pa_cons (pv 0) pa_nil)) (nomark _)) (pw_and1 (pt_cmpR op_ge (pv 3) (pe_op op_pow pe_int pe_int) (nomark _)))))) (pss_one (ps_ret (pe_op op_sub (pv 3) (pe_op op_pow pe_int pe_int)))) pss_nil)
    (PSs.wk (t' := tRest K) (pss_one (ps_ret (pe_call GM hr rfl mm km bm .nil pass0 (pa_cons (pe_op op_add (pv 3) (pe_op op_mulA (pv 2) pe_int)) (pa_cons (pv 1) pa_nil)))))
      ?w5)) ?w4)) ?w3)) ?w2)), ?_⟩)
  · obtain ⟨a, ns, p, f, rfl, _⟩ := h
    rfl
  case w5 =>
    intro D σ H ⟨a, ns, p, f, n, e, hS, hQ⟩
    subst e
    exact ⟨_, rfl, _, rfl, _, _, rfl, rfl, .inr (.inr (by decide)), _, _, rfl, rfl, _, rfl, _, _, rfl, hQ⟩
  case w4 =>
    intro D σ H ⟨a, ns, p, f, n, e, hS, hQ⟩
    subst e
    have nx : tRest K D [some (.ref a), some (.int p), some (.int f), some (.int n)] H := ⟨a, ns, p, f, n, rfl, hS, hQ⟩
    refine ⟨_, rfl, rfl, _, rfl, ?_⟩
    refine iteB (fun hlt => ?_) (fun _ => ?_)
    · refine ⟨_, rfl, _, rfl, a, _, rfl, .inl hS, _, _, rfl, rfl, _, rfl, ?_⟩
      refine iteB (fun hlt => ?_) (fun _ => ?_)
      · refine ⟨_, rfl, _, _, rfl, rfl, ⟨by decide, by decide, by decide⟩, _, _, rfl, rfl, _, rfl, ?_⟩
        refine iteB (fun hlt => ?_) (fun _ => ?_)
        · exact ⟨_, rfl, _, _, rfl, rfl, ⟨by decide, by decide, by decide⟩, _, _, rfl, rfl, hQ _ _ (DL.Sub.refl _)⟩
        · exact nx
      · exact nx
    · exact nx
  case w3 =>
    intro D σ H ⟨a, ns, p, f, n, e, hS, hQ⟩
    subst e
    refine ⟨_, rfl, _, _, rfl, rfl, _, rfl, ?_⟩
    refine iteB (fun hlt => ?_) (fun _ => ?_)
    · exact ⟨_, rfl, _, _, rfl, rfl, .inr (.inl (by decide)), _, _, rfl, rfl, a, ns, p, f, _, rfl, hS, hQ⟩
    · exact ⟨a, ns, p, f, n, rfl, hS, hQ⟩
  case w2 =>
    intro D σ H ⟨a, ns, p, f, n, e, hS, hQ⟩
    subst e
    refine ⟨_, rfl, a, _, rfl, .inl hS, _, _, rfl, rfl, _, rfl, ?_⟩
    refine iteB (fun hlt => ?_) (fun _ => ?_)
    · have hlt := of_decide_eq_true hlt
      obtain ⟨v, hat⟩ := atI_ints (ns := ns) (Int.emod_nonneg p (b := ((ns.map V.int).length : Int)) (by omega)) (Int.emod_lt_of_pos p (b := ((ns.map V.int).length : Int)) hlt)
      exact ⟨_, rfl, _, rfl, .inl ⟨_, rfl, _, rfl, a, _, rfl, .inl hS, _, _, rfl, rfl, hlt, .inl ⟨a, _, _, _, rfl, rfl, hS, hat, .inl ⟨_, rfl, a, ns, p, f, _, rfl, hS, hQ⟩⟩⟩⟩
    · exact ⟨a, ns, p, f, n, rfl, hS, hQ⟩
  · obtain ⟨a, ns, p, f, rfl, hS, hQ⟩ := h
    exact ⟨a, ns, p, f, 0, rfl, hS, hQ⟩
/-- _law_rest at hand -/
structure RestAt (P : Program) (w : World) (K : PySem.W.Frag) (mg : Str → Option Value) (base : Heap) where
  f : Addr
  fd : FuncData
  ok : FnOk P w K mg base CX0 2 f fd ["script", "place", "fills"] (spRest K)
  mg : mg "_law_rest" = some (.ref f)
  kp : PySem.W.keepIn K (.ref f) = true
  bd : Binds K fd ["script", "place", "fills"] []
theorem rest_at (T : Txt K mg) : Nonempty (RestAt P w K mg base) := by
  obtain ⟨f, fd, F, g⟩ := T.D__law_rest
  obtain ⟨fm, fdm, FM, gm⟩ := T.D__law_mixed
  have GM := fnOk_mixed (P := P) (w := w) (base := base) T FM
  exact ⟨⟨f, fd, fok__law_rest F T (GM.imp fun vs H Q E h => imp_mixed law_mixed_ok vs H Q E h) gm FM.kp (FM.bindsN fun _ _ _ _ _ _ us hl => match us, hl with | [_, _], _ => rfl), g, F.kp, F.bindsN fun _ _ _ _ _ _ us hl => match us, hl with | [_, _, _], _ => rfl⟩⟩
theorem fok__law_pool {f : Addr} {fd : FuncData} (F : FunD K "_law_pool" "_law_pool" (defArgs s__law_pool) (defBody s__law_pool) (defScope s__law_pool) [] [] f fd) (R : RestAt P w K mg base) :
   FnOk P w K mg base CX0 3 f fd ["script"] (spPool K) := by
  refine F.ok sc__law_pool (fun vs H Q E h => ?_) (fun cdv A outer s H vs Q E hr h => ⟨_, PSs.nox (
    pss_one (ps_ret (pe_lst (pa_cons (pv 0) (pa_cons pe_int (pa_cons (pe_call R.ok hr rfl R.mg R.kp R.bd .nil pass0 (pa_cons (pv 0) (pa_cons pe_int (pa_cons pe_int pa_nil)))) (pa_cons pe_int pa_nil))))))), ?_⟩)
  · obtain ⟨a, ns, rfl, _⟩ := h
    rfl
  · obtain ⟨a, ns, rfl, hS, hQ⟩ := h
    exact ⟨_, rfl, _, rfl, a, ns, 0, 0, rfl, hS, fun v H' hs => ⟨by show (4 : Nat) ≤ sizeLine; decide, fun l hl => hQ l v H' hs hl⟩⟩
theorem fok__law_next {f : Addr} {fd : FuncData} (F : FunD K "_law_next" "_law_next" (defArgs s__law_next) (defBody s__law_next) (defScope s__law_next) [] [] f fd) (R : RestAt P w K mg base) :
   FnOk P w K mg base CX0 3 f fd ["pool"] (spNext K) := by
  refine F.ok sc__law_next (fun vs H Q E h => ?_) (fun cdv A outer s H vs Q E hr h => ⟨_, PSs.nox (
    pss_cons (PS.wk (t' := tNextP K) (ps_asg (pe_op op_add (pe_ix ix_seq (pv 0) pe_int (fun _ _ => rfl)) pe_int) (pg_sub (pv 0) pe_int set_list (by intro _; rfl))) ?w1)
    (pss_cons (PS.wk (t' := tNextP K) (ps_asg (pe_call R.ok hr rfl R.mg R.kp R.bd .nil pass0 (pa_cons (pe_ix ix_seq (pv 0) pe_int (fun _ _ => rfl)) (pa_cons (pe_ix ix_seq (pv 0) pe_int (fun _ _ => rfl)) (pa_cons pe_int pa_nil)))) (pg_sub (pv 0) pe_int set_list (by intro _; rfl))) ?w2)
    (pss_one (PS.wk (t' := tNextP K) (ps_asg pe_int (pg_sub (pv 0) pe_int set_list (by intro _; rfl))) ?w3)))), ?_⟩)
  · obtain ⟨p, rfl, _⟩ := h
    rfl
  case w1 =>
    rintro D σ H ⟨p, H0, rfl, h, q⟩
    obtain ⟨n, hS, a, b, c, e⟩ := h.ok
    exact ⟨_, rfl, .inl ⟨p.pa, _, _, _, rfl, rfl, .of e, atI_nat (j := 1) rfl, _, _, rfl, rfl, _, rfl, p.pa, _, _, 1, rfl, rfl, e, rfl, q _ (h.set _ _ _)⟩⟩
  case w2 =>
    rintro D σ H ⟨p, H0, rfl, h, q⟩
    obtain ⟨n, hS, a, b, c, e⟩ := h.ok
    refine ⟨_, rfl, .inl ⟨p.pa, _, _, _, rfl, rfl, .of e, atI_nat (j := 0) rfl, _, rfl, .inl ⟨p.pa, _, _, _, rfl, rfl, .of e, atI_nat (j := 1) rfl, p.sa, p.ns, _, _, rfl, hS.sl, fun v H' hs => ?_⟩⟩⟩
    exact ⟨_, rfl, p.pa, _, _, 2, rfl, rfl, hs _ _ e, rfl, q _ ((h.grow hs).set _ _ _)⟩
  case w3 =>
    rintro D σ H ⟨p, H0, rfl, h, q⟩
    obtain ⟨n, hS, a, b, c, e⟩ := h.ok
    exact ⟨_, rfl, p.pa, _, _, 3, rfl, rfl, e, rfl, q _ (h.set _ _ _)⟩
  · obtain ⟨p, rfl, h, q⟩ := h
    exact ⟨p, H, rfl, ⟨h, fun _ _ _ e => e⟩, fun H1 h1 => ⟨p, H, rfl, h1, fun H2 h2 => ⟨p, H, rfl, h2, fun H3 h3 => q H3 h3⟩⟩⟩
theorem fok__law_draw {f : Addr} {fd : FuncData} (F : FunD K "_law_draw" "_law_draw" (defArgs s__law_draw) (defBody s__law_draw) (defScope s__law_draw) [] [] f fd) (T : Txt K mg) (R : RestAt P w K mg base) :
   FnOk P w K mg base CX0 3 f fd ["pool", "limit"] (spDraw K) := by
  refine F.ok sc__law_draw (fun vs H Q E h => ?_) (fun cdv A outer s H vs Q E hr h => ⟨_, PSs.nox (
    pss_cons (ps_if (pt_cmpR op_le (pe_ix ix_seq (pv 0) pe_int (fun _ _ => rfl)) pe_int (nomark _))
       (pss_cons (ps_asg (pe_op op_add (pe_ix ix_seq (pv 0) pe_int (fun _ _ => rfl)) pe_int) (pg_sub (pv 0) pe_int set_list (by intro _; rfl)))
       (pss_one (ps_asg (pe_call R.ok hr rfl R.mg R.kp R.bd .nil pass0 (pa_cons (pe_ix ix_seq (pv 0) pe_int (fun _ _ => rfl)) (pa_cons (pe_ix ix_seq (pv 0) pe_int (fun _ _ => rfl)) (pa_cons (pe_ix ix_seq (pv 0) pe_int (fun _ _ => rfl)) pa_nil)))) (pg_sub (pv 0) pe_int set_list (by intro _; rfl))))) pss_nil)
    (PSs.wk (t' := tDrawP K) (pss_cons (ps_set (i := 2) sc__law_draw.nd rfl (.inl rfl) (pe_op op_mod (pe_callTy call_int1 rfl T.M_int (by decide +kernel) (pa_cons (pe_ix ix_seq (pv 0) pe_int (fun _ _ => rfl)) pa_nil)) (pv 1)))
    (PSs.wk (t' := tDrawV K) (pss_cons (ps_asg (pe_op op_fdivW (pe_callTy call_int1 rfl T.M_int (by decide +kernel) (pa_cons (pe_ix ix_seq (pv 0) pe_int (fun _ _ => rfl)) pa_nil)) (pv 1)) (pg_sub (pv 0) pe_int set_list (by intro _; rfl)))
    (pss_one (ps_ret (pv 2)))) ?w3)) ?w2)), ?_⟩)
  · obtain ⟨p, n, rfl, _⟩ := h
    rfl
  case w2 =>
    rintro D σ H ⟨p, n, o, H0, rfl, h, hn, hl, q⟩
    obtain ⟨_, hS, a, b, c, e⟩ := h.ok
    exact ⟨_, rfl, .inl ⟨p.pa, _, _, _, rfl, rfl, .of e, atI_nat (j := 2) rfl, .inl ⟨_, rfl, _, rfl, _, _, rfl, rfl, hn, p, n, _, H0, rfl, h, hn, hl, fun H' h' => q _ H' (Int.emod_nonneg _ (by omega)) (Int.emod_lt_of_pos _ hn) h'⟩⟩⟩
  case w3 =>
    rintro D σ H ⟨p, n, v, H0, rfl, h, hn, hl, q⟩
    obtain ⟨_, hS, a, b, c, e⟩ := h.ok
    exact ⟨_, rfl, .inl ⟨p.pa, _, _, _, rfl, rfl, .of e, atI_nat (j := 2) rfl, .inl ⟨_, rfl, _, rfl, _, _, rfl, rfl, ⟨hn, hl⟩, _, rfl, p.pa, _, _, 2, rfl, rfl, e, rfl, _, rfl, q _ (h.set _ _ _)⟩⟩⟩
  · obtain ⟨p, n, rfl, h, hn, hl, q⟩ := h
    have h' := h
    obtain ⟨_, hS, a, b, c, e⟩ := h'
    refine ⟨_, rfl, .inl ⟨p.pa, _, _, _, rfl, rfl, .of e, atI_nat (j := 2) rfl, _, _, rfl, rfl, _, rfl, ?_⟩⟩
    have h0 : PoolK K p H H := ⟨h, fun _ _ _ e => e⟩
    refine iteB (fun _ => ?_) (fun _ => ⟨p, n, _, H, rfl, h0, hn, hl, q⟩)
    refine ⟨_, rfl, .inl ⟨p.pa, _, _, _, rfl, rfl, .of e, atI_nat (j := 3) rfl, _, _, rfl, rfl, _, rfl, p.pa, _, _, 3, rfl, rfl, e, rfl, ?_⟩⟩
    have h1 := h0.set a b (c + 1)
    obtain ⟨_, hS1, a1, b1, c1, e1⟩ := h1.ok
    refine ⟨_, rfl, .inl ⟨p.pa, _, _, _, rfl, rfl, .of e1, atI_nat (j := 0) rfl, _, rfl, .inl ⟨p.pa, _, _, _, rfl, rfl, .of e1, atI_nat (j := 1) rfl, _, rfl, .inl ⟨p.pa, _, _, _, rfl, rfl, .of e1, atI_nat (j := 3) rfl, p.sa, p.ns, _, _, rfl, hS1.sl, fun v H' hs => ?_⟩⟩⟩⟩
    exact ⟨_, rfl, p.pa, _, _, 2, rfl, rfl, hs _ _ e1, rfl, p, n, _, H, rfl, (h1.grow hs).set _ _ _, hn, hl, q⟩
theorem ok__law_draw (T : Txt K mg) : Fnd P w K mg base 3 "_law_draw" 2 W__law_draw := by
  obtain ⟨f, fd, F, g⟩ := T.D__law_draw
  obtain ⟨R⟩ := rest_at (P := P) (w := w) (base := base) T
  exact ⟨f, fd, ["pool", "limit"], (fok__law_draw F T R).imp fun vs H Q E h => imp_draw vs H Q E h, g, F.kp, F.bindsN fun _ _ _ _ _ _ us hl => match us, hl with | [_, _], _ => rfl⟩
theorem ok__law_next (T : Txt K mg) : Fnd P w K mg base 3 "_law_next" 1 W__law_next := by
  obtain ⟨f, fd, F, g⟩ := T.D__law_next
  obtain ⟨R⟩ := rest_at (P := P) (w := w) (base := base) T
  exact ⟨f, fd, ["pool"], (fok__law_next F R).imp fun vs H Q E h => imp_next vs H Q E h, g, F.kp, F.bindsN fun _ _ _ _ _ _ us hl => match us, hl with | [_], _ => rfl⟩
theorem ok_frac (T : Txt K mg) : Fnd P w K mg base 1 "frac" 2 W_frac := by
  have M_gcd := T.M_gcd; have sc := sc_frac
  exact fnd_def T.D_frac sc (fun _ _ _ _ _ _ us hl => match us, hl with | [_, _], _ => rfl) fun f cdv A outer s H E B hr =>
   (dss_cons (ds_if (dt_cp cd_lt (dr_var (i := 1) rfl (.inl rfl)) (dr de_int))
 (dss_one (ds_par (i := 0) (j := 1) sc.nd rfl rfl (by decide) rfl rfl (de_neg (dr_var (i := 0) rfl (.inl rfl))) (de_neg (dr_var (i := 1) rfl (.inl rfl)))))
 dss_nil)
 (dss_cons (ds_set (i := 2) sc.nd rfl (.inl rfl) (de_bfun cr_gcd bd_gcd M_gcd (drs_cons (dr_var (i := 0) rfl (.inl rfl)) (drs_cons (dr_var (i := 1) rfl (.inl rfl)) drs_nil))))
 (dss_one (ds_ret (de_tup (dds_cons (de_div (dr_var (i := 0) rfl (.inl rfl)) (dr_var (i := 2) rfl (.inl rfl))) (dds_cons (de_div (dr_var (i := 1) rfl (.inl rfl)) (dr_var (i := 2) rfl (.inl rfl))) dds_nil)))))))
theorem ok_plus (T : Txt K mg) : Fnd P w K mg base 2 "plus" 2 W_plus := by
  have F_frac := ok_frac (P := P) (w := w) (base := base) T; have sc := sc_plus
  exact fnd_def T.D_plus sc (fun _ _ _ _ _ _ us hl => match us, hl with | [_, _], _ => rfl) fun f cdv A outer s H E B hr =>
   (dss_one (ds_ret (de_call F_frac hr rfl (da_d (de_add (dr (de_mul (dr (de_idx (dr_var (i := 0) rfl (.inl rfl)) (dr de_int))) (dr (de_idx (dr_var (i := 1) rfl (.inl rfl)) (dr de_int))))) (dr (de_mul (dr (de_idx (dr_var (i := 1) rfl (.inl rfl)) (dr de_int))) (dr (de_idx (dr_var (i := 0) rfl (.inl rfl)) (dr de_int)))))) (da_d (de_mul (dr (de_idx (dr_var (i := 0) rfl (.inl rfl)) (dr de_int))) (dr (de_idx (dr_var (i := 1) rfl (.inl rfl)) (dr de_int)))) da_nil)))))
theorem ok_minus (T : Txt K mg) : Fnd P w K mg base 2 "minus" 2 W_minus := by
  have F_frac := ok_frac (P := P) (w := w) (base := base) T; have sc := sc_minus
  exact fnd_def T.D_minus sc (fun _ _ _ _ _ _ us hl => match us, hl with | [_, _], _ => rfl) fun f cdv A outer s H E B hr =>
   (dss_one (ds_ret (de_call F_frac hr rfl (da_d (de_sub (dr (de_mul (dr (de_idx (dr_var (i := 0) rfl (.inl rfl)) (dr de_int))) (dr (de_idx (dr_var (i := 1) rfl (.inl rfl)) (dr de_int))))) (dr (de_mul (dr (de_idx (dr_var (i := 1) rfl (.inl rfl)) (dr de_int))) (dr (de_idx (dr_var (i := 0) rfl (.inl rfl)) (dr de_int)))))) (da_d (de_mul (dr (de_idx (dr_var (i := 0) rfl (.inl rfl)) (dr de_int))) (dr (de_idx (dr_var (i := 1) rfl (.inl rfl)) (dr de_int)))) da_nil)))))
theorem ok_times (T : Txt K mg) : Fnd P w K mg base 2 "times" 2 W_times := by
  have F_frac := ok_frac (P := P) (w := w) (base := base) T; have sc := sc_times
  exact fnd_def T.D_times sc (fun _ _ _ _ _ _ us hl => match us, hl with | [_, _], _ => rfl) fun f cdv A outer s H E B hr =>
   (dss_one (ds_ret (de_call F_frac hr rfl (da_d (de_mul (dr (de_idx (dr_var (i := 0) rfl (.inl rfl)) (dr de_int))) (dr (de_idx (dr_var (i := 1) rfl (.inl rfl)) (dr de_int)))) (da_d (de_mul (dr (de_idx (dr_var (i := 0) rfl (.inl rfl)) (dr de_int))) (dr (de_idx (dr_var (i := 1) rfl (.inl rfl)) (dr de_int)))) da_nil)))))
theorem ok_over (T : Txt K mg) : Fnd P w K mg base 2 "over" 2 W_over := by
  have F_frac := ok_frac (P := P) (w := w) (base := base) T; have sc := sc_over
  exact fnd_def T.D_over sc (fun _ _ _ _ _ _ us hl => match us, hl with | [_, _], _ => rfl) fun f cdv A outer s H E B hr =>
   (dss_one (ds_ret (de_call F_frac hr rfl (da_d (de_mul (dr (de_idx (dr_var (i := 0) rfl (.inl rfl)) (dr de_int))) (dr (de_idx (dr_var (i := 1) rfl (.inl rfl)) (dr de_int)))) (da_d (de_mul (dr (de_idx (dr_var (i := 0) rfl (.inl rfl)) (dr de_int))) (dr (de_idx (dr_var (i := 1) rfl (.inl rfl)) (dr de_int)))) da_nil)))))
theorem ok_less (T : Txt K mg) : Fnd P w K mg base 1 "less" 2 W_less := by
  have sc := sc_less
  exact fnd_def T.D_less sc (fun _ _ _ _ _ _ us hl => match us, hl with | [_, _], _ => rfl) fun f cdv A outer s H E B hr =>
   (dss_one (ds_ret (de_cp cd_lt (dr (de_mul (dr (de_idx (dr_var (i := 0) rfl (.inl rfl)) (dr de_int))) (dr (de_idx (dr_var (i := 1) rfl (.inl rfl)) (dr de_int))))) (dr (de_mul (dr (de_idx (dr_var (i := 1) rfl (.inl rfl)) (dr de_int))) (dr (de_idx (dr_var (i := 0) rfl (.inl rfl)) (dr de_int))))))))
theorem ok_sum_of (T : Txt K mg) : Fnd P w K mg base 3 "sum_of" 1 W_sum_of := by
  have F_plus := ok_plus (P := P) (w := w) (base := base) T; have C_NOUGHT := T.C_NOUGHT; have sc := sc_sum_of
  exact fnd_def T.D_sum_of sc (fun _ _ _ _ _ _ us hl => match us, hl with | [_], _ => rfl) fun f cdv A outer s H E B hr =>
   (dss_cons (ds_set (i := 1) sc.nd rfl (.inl rfl) (de_glob C_NOUGHT rfl))
 (dss_cons (ds_for (pu := true) (di_list (de_var (i := 0) rfl (.inl rfl))) (dg_name (i := 2) sc.nd rfl (.inl rfl))
 (dss_one (ds_set (i := 1) sc.nd rfl (.inl rfl) (de_call F_plus hr rfl (da_d (de_var (i := 1) rfl (.inl rfl)) (da_d (de_var (i := 2) rfl (.inl rfl)) da_nil))))))
 (dss_one (ds_ret (de_var (i := 1) rfl (.inl rfl))))))
theorem ok_value_at (T : Txt K mg) : Fnd P w K mg base 3 "value_at" 2 W_value_at := by
  have F_plus := ok_plus (P := P) (w := w) (base := base) T; have F_times := ok_times (P := P) (w := w) (base := base) T; have C_NOUGHT := T.C_NOUGHT; have sc := sc_value_at
  exact fnd_def T.D_value_at sc (fun _ _ _ _ _ _ us hl => match us, hl with | [_, _], _ => rfl) fun f cdv A outer s H E B hr =>
   (dss_cons (ds_set (i := 2) sc.nd rfl (.inl rfl) (de_glob C_NOUGHT rfl))
 (dss_cons (ds_for (pu := true) (di_list (de_rev (dr_var (i := 0) rfl (.inl rfl)))) (dg_name (i := 3) sc.nd rfl (.inl rfl))
 (dss_one (ds_set (i := 2) sc.nd rfl (.inl rfl) (de_call F_plus hr rfl (da_d (de_call F_times hr rfl (da_d (de_var (i := 2) rfl (.inl rfl)) (da_d (de_var (i := 1) rfl (.inl rfl)) da_nil))) (da_d (de_var (i := 3) rfl (.inl rfl)) da_nil))))))
 (dss_one (ds_ret (de_var (i := 2) rfl (.inl rfl))))))
theorem ok_whole_of (T : Txt K mg) : Fnd P w K mg base 3 "whole_of" 1 W_whole_of := by
  have F_times := ok_times (P := P) (w := w) (base := base) T; have F_minus := ok_minus (P := P) (w := w) (base := base) T; have F_plus := ok_plus (P := P) (w := w) (base := base) T; have C_HALF := T.C_HALF; have sc := sc_whole_of
  exact fnd_def T.D_whole_of sc (fun _ _ _ _ _ _ us hl => match us, hl with | [_], _ => rfl) fun f cdv A outer s H E B hr =>
   (dss_cons (ds_if (dt_cp (cd_eq hr.units) (dr (de_idx (dr_var (i := 0) rfl (.inl rfl)) (dr de_int))) (dr de_str))
 (dss_one (ds_ret (de_tup (dds_cons (de_idx (dr_var (i := 0) rfl (.inl rfl)) (dr de_int)) (dds_cons (de_idx (dr_var (i := 0) rfl (.inl rfl)) (dr de_int)) dds_nil)))))
 dss_nil)
 (dss_one (ds_ret (de_tup (dds_cons (de_call F_times hr rfl (da_d (de_idx (dr_var (i := 0) rfl (.inl rfl)) (dr de_int)) (da_d (de_call F_minus hr rfl (da_d (de_idx (dr_var (i := 0) rfl (.inl rfl)) (dr de_int)) (da_d (de_idx (dr_var (i := 0) rfl (.inl rfl)) (dr de_int)) da_nil))) da_nil))) (dds_cons (de_call F_times hr rfl (da_d (de_glob C_HALF rfl) (da_d (de_call F_plus hr rfl (da_d (de_idx (dr_var (i := 0) rfl (.inl rfl)) (dr de_int)) (da_d (de_idx (dr_var (i := 0) rfl (.inl rfl)) (dr de_int)) da_nil))) da_nil))) dds_nil))))))
theorem ok_two_pushes (T : Txt K mg) : Fnd P w K mg base 4 "two_pushes" 3 W_two_pushes := by
  have F_sum_of := ok_sum_of (P := P) (w := w) (base := base) T; have F_over := ok_over (P := P) (w := w) (base := base) T; have F_whole_of := ok_whole_of (P := P) (w := w) (base := base) T; have F_minus := ok_minus (P := P) (w := w) (base := base) T; have F_times := ok_times (P := P) (w := w) (base := base) T; have sc := sc_two_pushes
  exact fnd_def T.D_two_pushes sc (fun _ _ _ _ _ _ us hl => match us, hl with | [_, _, _], _ => rfl) fun f cdv A outer s H E B hr =>
   (dss_cons (ds_asg (pu := true) (de_var (i := 1) rfl (.inl rfl)) (dg_tup (dgs_cons (dg_name (i := 3) sc.nd rfl (.inr rfl)) (dgs_cons (dg_name (i := 4) sc.nd rfl (.inl rfl)) dgs_nil)) (gs_lenS (gs_lenS gs_len0 nm_ex) nm_ex)))
 (dss_cons (ds_setLc (i := 5) (own := [("load", 8)]) sc.nd rfl rfl (sw_true rfl rfl rfl (by decide +kernel)) (di_list (de_var (i := 2) rfl (.inl rfl))) (blkOk_by (show blkC ["length", "supports", "loads", "first", "second", "told", "right", "push", "load", "force", "place", "_"] (defScope s_two_pushes) _ _ = true by decide +kernel)) (fun _ _ _ _ _ => (dg_name (i := 8) sc.nd rfl (by first | exact .inl rfl | exact .inr rfl))) (fun _ _ _ _ _ => dts_nil) (fun _ _ _ _ _ => (de_call F_whole_of hr rfl (da_d (de_var (i := 8) rfl (by first | exact .inl rfl | exact .inr (.inl rfl) | exact .inr (.inr rfl))) da_nil))))
 (dss_cons (ds_set (i := 6) sc.nd rfl (.inl rfl) (de_call F_sum_of hr rfl (da_d (de_n (dn_lc (own := [("force", 9), ("place", 10)]) sc.nd (di_list (de_var (i := 5) rfl (.inl rfl))) (blkOk_by (show blkC ["length", "supports", "loads", "first", "second", "told", "right", "push", "load", "force", "place", "_"] (defScope s_two_pushes) _ _ = true by decide +kernel)) (fun _ _ _ _ _ => (dg_tup (dgs_cons (dg_name (i := 9) sc.nd rfl (by first | exact .inl rfl | exact .inr rfl)) (dgs_cons (dg_name (i := 10) sc.nd rfl (by first | exact .inl rfl | exact .inr rfl)) dgs_nil)) (gs_lenS (gs_lenS gs_len0 nm_ex) nm_ex))) (fun _ _ _ _ _ => dts_nil) (fun _ _ _ _ _ => (de_call F_times (hr.mono (by decide)) rfl (da_d (de_var (i := 9) rfl (by first | exact .inl rfl | exact .inr (.inl rfl) | exact .inr (.inr rfl))) (da_d (de_call F_minus (hr.mono (by decide)) rfl (da_d (de_var (i := 10) rfl (by first | exact .inl rfl | exact .inr (.inl rfl) | exact .inr (.inr rfl))) (da_d (de_var (i := 3) rfl (by first | exact .inl rfl | exact .inr (.inl rfl) | exact .inr (.inr rfl))) da_nil))) da_nil)))))) da_nil)))
 (dss_cons (ds_set (i := 7) sc.nd rfl (.inl rfl) (de_call F_over (hr.mono (by decide)) rfl (da_d (de_var (i := 6) rfl (.inl rfl)) (da_d (de_call F_minus (hr.mono (by decide)) rfl (da_d (de_var (i := 4) rfl (.inl rfl)) (da_d (de_var (i := 3) rfl (.inr (.inl rfl))) da_nil))) da_nil))))
 (dss_one (ds_ret (de_n (dn_lst (dds_cons (de_call F_minus (hr.mono (by decide)) rfl (da_d (de_call F_sum_of hr rfl (da_d (de_n (dn_lc (own := [("force", 9), ("_", 11)]) sc.nd (di_list (de_var (i := 5) rfl (.inl rfl))) (blkOk_by (show blkC ["length", "supports", "loads", "first", "second", "told", "right", "push", "load", "force", "place", "_"] (defScope s_two_pushes) _ _ = true by decide +kernel)) (fun _ _ _ _ _ => (dg_tup (dgs_cons (dg_name (i := 9) sc.nd rfl (by first | exact .inl rfl | exact .inr rfl)) (dgs_cons (dg_name (i := 11) sc.nd rfl (by first | exact .inl rfl | exact .inr rfl)) dgs_nil)) (gs_lenS (gs_lenS gs_len0 nm_ex) nm_ex))) (fun _ _ _ _ _ => dts_nil) (fun _ _ _ _ _ => (de_var (i := 9) rfl (by first | exact .inl rfl | exact .inr (.inl rfl) | exact .inr (.inr rfl)))))) da_nil)) (da_d (de_var (i := 7) rfl (.inl rfl)) da_nil))) (dds_cons (de_var (i := 7) rfl (.inl rfl)) dds_nil))))))))))
theorem ok_places_in (T : Txt K mg) : Fnd P w K mg base 2 "places_in" 3 W_places_in := by
  have F_less := ok_less (P := P) (w := w) (base := base) T; have M_len := T.M_len; have M_list := T.M_list; have C_NOUGHT := T.C_NOUGHT; have sc := sc_places_in
  exact fnd_def T.D_places_in sc (fun _ _ _ _ _ _ us hl => match us, hl with | [_, _, _], _ => rfl) fun f cdv A outer s H E B hr =>
   (dss_cons (ds_own (i := 3) sc.nd rfl (.inl rfl) (dn_add (dr (de_n (dn_lst (dds_cons (de_glob C_NOUGHT rfl) (dds_cons (de_var (i := 0) rfl (.inl rfl)) dds_nil))))) (dr (de_bty call_list_of bd_list M_list (drs_cons (dr_var (i := 1) rfl (.inl rfl)) drs_nil)))))
 (dss_cons (ds_for (pu := true) (di_list (de_var (i := 2) rfl (.inl rfl))) (dg_name (i := 4) sc.nd rfl (.inl rfl))
 (dss_one (ds_ext (i := 3) rfl (.inl rfl) (dr (de_bty call_list_of bd_list M_list (drs_cons (dr_if (dt_cp (cd_eq hr.units) (dr (de_idx (dr_var (i := 4) rfl (.inl rfl)) (dr de_int))) (dr de_str)) (dr (de_slice (dr_var (i := 4) rfl (.inl rfl)) (do_some de_int) (do_some de_int))) (dr (de_slice (dr_var (i := 4) rfl (.inl rfl)) (do_some de_int) (do_some de_int)))) drs_nil))))))
 (dss_cons (ds_own (i := 5) sc.nd rfl (.inl rfl) (dn_lst dds_nil))
 (dss_cons (ds_frz 3 (ds_for (pu := true) (di_list (de_var (i := 3) rfl (.inl rfl))) (dg_name (i := 6) sc.nd rfl (.inl rfl))
 (dss_cons (ds_set (i := 7) sc.nd rfl (.inl rfl) de_int)
 (dss_cons (ds_while (dt_w (dw_and (dt_cp cd_lt (dr_var (i := 7) rfl (.inl rfl)) (dr (de_blt call_len_seq bd_len M_len (drs_cons (dr_var (i := 5) rfl (.inl rfl)) drs_nil)))) (dw_and1 (dt_tru (dr (de_call F_less hr rfl (da_d (de_idx (dr_var (i := 5) rfl (.inl rfl)) (dr_var (i := 7) rfl (.inl rfl))) (da_d (de_var (i := 6) rfl (.inl rfl)) da_nil))))))))
 (dss_one (ds_set (i := 7) sc.nd rfl (.inl rfl) (de_add (dr_var (i := 7) rfl (.inl rfl)) (dr de_int)))))
 (dss_one (ds_if (dt_w (dw_or (dt_cp (cd_eq hr.units) (dr_var (i := 7) rfl (.inl rfl)) (dr (de_blt call_len_seq bd_len M_len (drs_cons (dr_var (i := 5) rfl (.inl rfl)) drs_nil)))) (dw_or1 (dt_cp (cd_ne hr.units) (dr (de_idx (dr_var (i := 5) rfl (.inl rfl)) (dr_var (i := 7) rfl (.inl rfl)))) (dr_var (i := 6) rfl (.inl rfl))))))
 (dss_one (ds_ins (i := 5) rfl (.inl rfl) (de_var (i := 7) rfl (.inl rfl)) (de_var (i := 6) rfl (.inl rfl))))
 dss_nil))))))
 (dss_one (ds_frz 5 (ds_ret (de_var (i := 5) rfl (.inl rfl)))))))))
theorem ok_moment_of (T : Txt K mg) : Fnd P w K mg base 3 "moment_of" 2 W_moment_of := by
  have F_minus := ok_minus (P := P) (w := w) (base := base) T; have F_times := ok_times (P := P) (w := w) (base := base) T; have C_NOUGHT := T.C_NOUGHT; have sc := sc_moment_of
  exact fnd_def T.D_moment_of sc (fun _ _ _ _ _ _ us hl => match us, hl with | [_, _], _ => rfl) fun f cdv A outer s H E B hr =>
   (dss_one (ds_ret (de_n (dn_lst (dds_cons (de_call F_minus hr rfl (da_d (de_glob C_NOUGHT rfl) (da_d (de_call F_times hr rfl (da_d (de_var (i := 0) rfl (.inl rfl)) (da_d (de_var (i := 1) rfl (.inl rfl)) da_nil))) da_nil))) (dds_cons (de_var (i := 0) rfl (.inl rfl)) (dds_cons (de_glob C_NOUGHT rfl) dds_nil)))))))
theorem ok_spread_moment (T : Txt K mg) : Fnd P w K mg base 4 "spread_moment" 2 W_spread_moment := by
  have F_less := ok_less (P := P) (w := w) (base := base) T; have F_times := ok_times (P := P) (w := w) (base := base) T; have F_whole_of := ok_whole_of (P := P) (w := w) (base := base) T; have F_moment_of := ok_moment_of (P := P) (w := w) (base := base) T; have F_minus := ok_minus (P := P) (w := w) (base := base) T; have C_NOUGHT := T.C_NOUGHT; have C_HALF := T.C_HALF; have sc := sc_spread_moment
  exact fnd_def T.D_spread_moment sc (fun _ _ _ _ _ _ us hl => match us, hl with | [_, _], _ => rfl) fun f cdv A outer s H E B hr =>
   (dss_cons (ds_asg (pu := true) (de_var (i := 0) rfl (.inl rfl)) (dg_tup (dgs_cons (dg_name (i := 2) sc.nd rfl (.inl rfl)) (dgs_cons (dg_name (i := 3) sc.nd rfl (.inl rfl)) (dgs_cons (dg_name (i := 4) sc.nd rfl (.inl rfl)) (dgs_cons (dg_name (i := 5) sc.nd rfl (.inl rfl)) dgs_nil)))) (gs_lenS (gs_lenS (gs_lenS (gs_lenS gs_len0 nm_ex) nm_ex) nm_ex) nm_ex)))
 (dss_cons (ds_if (dt_tru (dr (de_call F_less (hr.mono (by decide)) rfl (da_d (de_var (i := 1) rfl (.inl rfl)) (da_d (de_var (i := 3) rfl (.inl rfl)) da_nil)))))
 (dss_one (ds_ret (de_mul (dr (de_n (dn_lst (dds_cons (de_glob C_NOUGHT rfl) dds_nil)))) (dr de_int))))
 dss_nil)
 (dss_cons (ds_if (dt_not (dt_tru (dr (de_call F_less (hr.mono (by decide)) rfl (da_d (de_var (i := 1) rfl (.inl rfl)) (da_d (de_var (i := 4) rfl (.inl rfl)) da_nil))))))
 (dss_cons (ds_asg (pu := true) (de_call F_whole_of hr rfl (da_d (de_var (i := 0) rfl (.inl rfl)) da_nil)) (dg_tup (dgs_cons (dg_name (i := 6) sc.nd rfl (.inl rfl)) (dgs_cons (dg_name (i := 7) sc.nd rfl (.inl rfl)) dgs_nil)) (gs_lenS (gs_lenS gs_len0 nm_ex) nm_ex)))
 (dss_one (ds_ret (de_call F_moment_of hr rfl (da_d (de_call F_minus (hr.mono (by decide)) rfl (da_d (de_glob C_NOUGHT rfl) (da_d (de_var (i := 6) rfl (.inl rfl)) da_nil))) (da_d (de_var (i := 7) rfl (.inl rfl)) da_nil))))))
 dss_nil)
 (dss_cons (ds_set (i := 8) sc.nd rfl (.inl rfl) (de_call F_times (hr.mono (by decide)) rfl (da_d (de_glob C_HALF rfl) (da_d (de_var (i := 5) rfl (.inl rfl)) da_nil))))
 (dss_one (ds_ret (de_n (dn_lst (dds_cons (de_call F_minus (hr.mono (by decide)) rfl (da_d (de_glob C_NOUGHT rfl) (da_d (de_call F_times (hr.mono (by decide)) rfl (da_d (de_var (i := 8) rfl (.inl rfl)) (da_d (de_call F_times (hr.mono (by decide)) rfl (da_d (de_var (i := 3) rfl (.inl rfl)) (da_d (de_var (i := 3) rfl (.inl rfl)) da_nil))) da_nil))) da_nil))) (dds_cons (de_call F_times (hr.mono (by decide)) rfl (da_d (de_var (i := 5) rfl (.inl rfl)) (da_d (de_var (i := 3) rfl (.inl rfl)) da_nil))) (dds_cons (de_call F_minus (hr.mono (by decide)) rfl (da_d (de_glob C_NOUGHT rfl) (da_d (de_var (i := 8) rfl (.inl rfl)) da_nil))) dds_nil)))))))))))
theorem ok_pieces (T : Txt K mg) : Fnd P w K mg base 5 "pieces" 4 W_pieces := by
  have F_places_in := ok_places_in (P := P) (w := w) (base := base) T; have F_less := ok_less (P := P) (w := w) (base := base) T; have F_spread_moment := ok_spread_moment (P := P) (w := w) (base := base) T; have F_plus := ok_plus (P := P) (w := w) (base := base) T; have F_moment_of := ok_moment_of (P := P) (w := w) (base := base) T; have F_minus := ok_minus (P := P) (w := w) (base := base) T; have M_zip := T.M_zip; have C_NOUGHT := T.C_NOUGHT; have sc := sc_pieces
  exact fnd_def T.D_pieces sc (fun _ _ _ _ _ _ us hl => match us, hl with | [_, _, _, _], _ => rfl) fun f cdv A outer s H E B hr =>
   (dss_cons (ds_set (i := 4) sc.nd rfl (.inl rfl) (de_call F_places_in (hr.mono (by decide)) rfl (da_d (de_var (i := 0) rfl (.inl rfl)) (da_d (de_var (i := 1) rfl (.inl rfl)) (da_d (de_var (i := 2) rfl (.inl rfl)) da_nil)))))
 (dss_cons (ds_own (i := 5) sc.nd rfl (.inl rfl) (dn_lst dds_nil))
 (dss_cons (ds_for (pu := true) (di_zipK (de_var (i := 4) rfl (.inl rfl)) (de_slice (dr_var (i := 4) rfl (.inl rfl)) (do_some de_int) do_none) M_zip) (dg_tup (dgs_cons (dg_name (i := 6) sc.nd rfl (.inl rfl)) (dgs_cons (dg_name (i := 7) sc.nd rfl (.inl rfl)) dgs_nil)) (gs_lenS (gs_lenS gs_len0 nm_ex) nm_ex))
 (dss_cons (ds_set (i := 8) sc.nd rfl (.inl rfl) (de_mul (dr (de_n (dn_lst (dds_cons (de_glob C_NOUGHT rfl) dds_nil)))) (dr de_int)))
 (dss_cons (ds_for (pu := true) (di_zipK (de_var (i := 1) rfl (.inl rfl)) (de_var (i := 3) rfl (.inl rfl)) M_zip) (dg_tup (dgs_cons (dg_name (i := 9) sc.nd rfl (.inl rfl)) (dgs_cons (dg_name (i := 10) sc.nd rfl (.inl rfl)) dgs_nil)) (gs_lenS (gs_lenS gs_len0 nm_ex) nm_ex))
 (dss_one (ds_if (dt_not (dt_tru (dr (de_call F_less (hr.mono (by decide)) rfl (da_d (de_var (i := 6) rfl (.inl rfl)) (da_d (de_var (i := 9) rfl (.inl rfl)) da_nil))))))
 (dss_one (ds_setLc (i := 8) (own := [("a", 13), ("b", 14)]) sc.nd rfl rfl (sw_true rfl rfl rfl (by decide +kernel)) (di_zipK (de_var (i := 8) rfl (.inl rfl)) (de_call F_moment_of (hr.mono (by decide)) rfl (da_d (de_var (i := 10) rfl (.inl rfl)) (da_d (de_var (i := 9) rfl (.inl rfl)) da_nil))) M_zip) (blkOk_by (show blkC ["length", "supports", "loads", "pushes", "places", "found", "first", "last", "told", "place", "push", "load", "own", "a", "b"] (defScope s_pieces) _ _ = true by decide +kernel)) (fun _ _ _ _ _ => (dg_tup (dgs_cons (dg_name (i := 13) sc.nd rfl (by first | exact .inl rfl | exact .inr rfl)) (dgs_cons (dg_name (i := 14) sc.nd rfl (by first | exact .inl rfl | exact .inr rfl)) dgs_nil)) (gs_lenS (gs_lenS gs_len0 nm_ex) nm_ex))) (fun _ _ _ _ _ => dts_nil) (fun _ _ _ _ _ => (de_call F_plus (hr.mono (by decide)) rfl (da_d (de_var (i := 13) rfl (by first | exact .inl rfl | exact .inr (.inl rfl) | exact .inr (.inr rfl))) (da_d (de_var (i := 14) rfl (by first | exact .inl rfl | exact .inr (.inl rfl) | exact .inr (.inr rfl))) da_nil))))))
 dss_nil)))
 (dss_cons (ds_for (pu := true) (di_list (de_var (i := 2) rfl (.inl rfl))) (dg_name (i := 11) sc.nd rfl (.inl rfl))
 (dss_cons (ds_if (dt_cp (cd_eq hr.units) (dr (de_idx (dr_var (i := 11) rfl (.inl rfl)) (dr de_int))) (dr de_str))
 (dss_one (ds_set (i := 12) sc.nd rfl (.inl rfl) (de_call F_spread_moment hr rfl (da_d (de_var (i := 11) rfl (.inl rfl)) (da_d (de_var (i := 6) rfl (.inl rfl)) da_nil)))))
 (dss_one (ds_set (i := 12) sc.nd rfl (.inl rfl) (de_if (dt_not (dt_tru (dr (de_call F_less (hr.mono (by decide)) rfl (da_d (de_var (i := 6) rfl (.inl rfl)) (da_d (de_idx (dr_var (i := 11) rfl (.inl rfl)) (dr de_int)) da_nil)))))) (de_call F_moment_of (hr.mono (by decide)) rfl (da_d (de_call F_minus (hr.mono (by decide)) rfl (da_d (de_glob C_NOUGHT rfl) (da_d (de_idx (dr_var (i := 11) rfl (.inl rfl)) (dr de_int)) da_nil))) (da_d (de_idx (dr_var (i := 11) rfl (.inl rfl)) (dr de_int)) da_nil))) (de_mul (dr (de_n (dn_lst (dds_cons (de_glob C_NOUGHT rfl) dds_nil)))) (dr de_int))))))
 (dss_one (ds_setLc (i := 8) (own := [("a", 13), ("b", 14)]) sc.nd rfl rfl (sw_true rfl rfl rfl (by decide +kernel)) (di_zipK (de_var (i := 8) rfl (.inl rfl)) (de_var (i := 12) rfl (.inl rfl)) M_zip) (blkOk_by (show blkC ["length", "supports", "loads", "pushes", "places", "found", "first", "last", "told", "place", "push", "load", "own", "a", "b"] (defScope s_pieces) _ _ = true by decide +kernel)) (fun _ _ _ _ _ => (dg_tup (dgs_cons (dg_name (i := 13) sc.nd rfl (by first | exact .inl rfl | exact .inr rfl)) (dgs_cons (dg_name (i := 14) sc.nd rfl (by first | exact .inl rfl | exact .inr rfl)) dgs_nil)) (gs_lenS (gs_lenS gs_len0 nm_ex) nm_ex))) (fun _ _ _ _ _ => dts_nil) (fun _ _ _ _ _ => (de_call F_plus (hr.mono (by decide)) rfl (da_d (de_var (i := 13) rfl (by first | exact .inl rfl | exact .inr (.inl rfl) | exact .inr (.inr rfl))) (da_d (de_var (i := 14) rfl (by first | exact .inl rfl | exact .inr (.inl rfl) | exact .inr (.inr rfl))) da_nil))))))))
 (dss_one (ds_app (i := 5) rfl (.inl rfl) (de_tup (dds_cons (de_var (i := 6) rfl (.inl rfl)) (dds_cons (de_var (i := 7) rfl (.inl rfl)) (dds_cons (de_var (i := 8) rfl (.inl rfl)) dds_nil))))))))))
 (dss_one (ds_frz 5 (ds_ret (de_var (i := 5) rfl (.inl rfl))))))))
theorem ok_moment_at (T : Txt K mg) : Fnd P w K mg base 4 "moment_at" 2 W_moment_at := by
  have F_less := ok_less (P := P) (w := w) (base := base) T; have F_value_at := ok_value_at (P := P) (w := w) (base := base) T; have C_NOUGHT := T.C_NOUGHT; have sc := sc_moment_at
  exact fnd_def T.D_moment_at sc (fun _ _ _ _ _ _ us hl => match us, hl with | [_, _], _ => rfl) fun f cdv A outer s H E B hr =>
   (dss_cons (ds_for (pu := true) (di_list (de_var (i := 0) rfl (.inl rfl))) (dg_tup (dgs_cons (dg_name (i := 2) sc.nd rfl (.inl rfl)) (dgs_cons (dg_name (i := 3) sc.nd rfl (.inl rfl)) (dgs_cons (dg_name (i := 4) sc.nd rfl (.inl rfl)) dgs_nil))) (gs_lenS (gs_lenS (gs_lenS gs_len0 nm_ex) nm_ex) nm_ex))
 (dss_one (ds_if (dt_not (dt_tru (dr (de_call F_less (hr.mono (by decide)) rfl (da_d (de_var (i := 3) rfl (.inl rfl)) (da_d (de_var (i := 1) rfl (.inl rfl)) da_nil))))))
 (dss_one (ds_ret (de_call F_value_at hr rfl (da_d (de_var (i := 4) rfl (.inl rfl)) (da_d (de_var (i := 1) rfl (.inl rfl)) da_nil)))))
 dss_nil)))
 (dss_one (ds_ret (de_glob C_NOUGHT rfl))))
theorem ok_hinged (T : Txt K mg) : Fnd P w K mg base 6 "hinged" 2 W_hinged := by
  have F_pieces := ok_pieces (P := P) (w := w) (base := base) T; have F_two_pushes := ok_two_pushes (P := P) (w := w) (base := base) T; have C_NOUGHT := T.C_NOUGHT; have sc := sc_hinged
  exact fnd_def T.D_hinged sc (fun _ _ _ _ _ _ us hl => match us, hl with | [_, _], _ => rfl) fun f cdv A outer s H E B hr =>
   (dss_cons (ds_set (i := 2) sc.nd rfl (.inl rfl) (de_n (dn_lst (dds_cons (de_glob C_NOUGHT rfl) (dds_cons (de_var (i := 0) rfl (.inl rfl)) dds_nil)))))
 (dss_one (ds_ret (de_call F_pieces hr rfl (da_d (de_var (i := 0) rfl (.inl rfl)) (da_d (de_var (i := 2) rfl (.inl rfl)) (da_d (de_var (i := 1) rfl (.inl rfl)) (da_d (de_call F_two_pushes (hr.mono (by decide)) rfl (da_d (de_var (i := 0) rfl (.inl rfl)) (da_d (de_var (i := 2) rfl (.inl rfl)) (da_d (de_var (i := 1) rfl (.inl rfl)) da_nil)))) da_nil))))))))
theorem ok_cable_sag (T : Txt K mg) : Fnd P w K mg base 7 "cable_sag" 4 W_cable_sag := by
  have F_over := ok_over (P := P) (w := w) (base := base) T; have F_moment_at := ok_moment_at (P := P) (w := w) (base := base) T; have F_hinged := ok_hinged (P := P) (w := w) (base := base) T; have sc := sc_cable_sag
  exact fnd_def T.D_cable_sag sc (fun _ _ _ _ _ _ us hl => match us, hl with | [_, _, _, _], _ => rfl) fun f cdv A outer s H E B hr =>
   (dss_one (ds_ret (de_call F_over (hr.mono (by decide)) rfl (da_d (de_call F_moment_at (hr.mono (by decide)) rfl (da_d (de_call F_hinged hr rfl (da_d (de_var (i := 0) rfl (.inl rfl)) (da_d (de_var (i := 1) rfl (.inl rfl)) da_nil))) (da_d (de_var (i := 3) rfl (.inl rfl)) da_nil))) (da_d (de_var (i := 2) rfl (.inl rfl)) da_nil)))))
theorem ok_pull_for (T : Txt K mg) : Fnd P w K mg base 7 "pull_for" 4 W_pull_for := by
  have F_over := ok_over (P := P) (w := w) (base := base) T; have F_moment_at := ok_moment_at (P := P) (w := w) (base := base) T; have F_hinged := ok_hinged (P := P) (w := w) (base := base) T; have sc := sc_pull_for
  exact fnd_def T.D_pull_for sc (fun _ _ _ _ _ _ us hl => match us, hl with | [_, _, _, _], _ => rfl) fun f cdv A outer s H E B hr =>
   (dss_one (ds_ret (de_call F_over (hr.mono (by decide)) rfl (da_d (de_call F_moment_at (hr.mono (by decide)) rfl (da_d (de_call F_hinged hr rfl (da_d (de_var (i := 0) rfl (.inl rfl)) (da_d (de_var (i := 1) rfl (.inl rfl)) da_nil))) (da_d (de_var (i := 2) rfl (.inl rfl)) da_nil))) (da_d (de_var (i := 3) rfl (.inl rfl)) da_nil)))))
theorem ok_cable_slopes (T : Txt K mg) : Fnd P w K mg base 7 "cable_slopes" 3 W_cable_slopes := by
  have F_hinged := ok_hinged (P := P) (w := w) (base := base) T; have F_plus := ok_plus (P := P) (w := w) (base := base) T; have F_times := ok_times (P := P) (w := w) (base := base) T; have F_over := ok_over (P := P) (w := w) (base := base) T; have F_minus := ok_minus (P := P) (w := w) (base := base) T; have sc := sc_cable_slopes
  exact fnd_def T.D_cable_slopes sc (fun _ _ _ _ _ _ us hl => match us, hl with | [_, _, _], _ => rfl) fun f cdv A outer s H E B hr =>
   (dss_cons (ds_own (i := 3) sc.nd rfl (.inl rfl) (dn_lst dds_nil))
 (dss_cons (ds_for (pu := true) (di_list (de_call F_hinged hr rfl (da_d (de_var (i := 0) rfl (.inl rfl)) (da_d (de_var (i := 1) rfl (.inl rfl)) da_nil)))) (dg_tup (dgs_cons (dg_name (i := 4) sc.nd rfl (.inl rfl)) (dgs_cons (dg_name (i := 5) sc.nd rfl (.inl rfl)) (dgs_cons (dg_name (i := 6) sc.nd rfl (.inl rfl)) dgs_nil))) (gs_lenS (gs_lenS (gs_lenS gs_len0 nm_ex) nm_ex) nm_ex))
 (dss_cons (ds_set (i := 7) sc.nd rfl (.inl rfl) (de_call F_plus (hr.mono (by decide)) rfl (da_d (de_idx (dr_var (i := 6) rfl (.inl rfl)) (dr de_int)) (da_d (de_call F_times (hr.mono (by decide)) rfl (da_d (de_idx (dr_var (i := 6) rfl (.inl rfl)) (dr de_int)) (da_d (de_var (i := 4) rfl (.inl rfl)) da_nil))) da_nil))))
 (dss_cons (ds_set (i := 8) sc.nd rfl (.inl rfl) (de_call F_plus (hr.mono (by decide)) rfl (da_d (de_idx (dr_var (i := 6) rfl (.inl rfl)) (dr de_int)) (da_d (de_call F_times (hr.mono (by decide)) rfl (da_d (de_idx (dr_var (i := 6) rfl (.inl rfl)) (dr de_int)) (da_d (de_var (i := 5) rfl (.inl rfl)) da_nil))) da_nil))))
 (dss_one (ds_app (i := 3) rfl (.inl rfl) (de_call F_over (hr.mono (by decide)) rfl (da_d (de_call F_minus (hr.mono (by decide)) rfl (da_d (de_var (i := 8) rfl (.inl rfl)) (da_d (de_var (i := 7) rfl (.inl rfl)) da_nil))) (da_d (de_call F_times (hr.mono (by decide)) rfl (da_d (de_var (i := 2) rfl (.inl rfl)) (da_d (de_call F_minus (hr.mono (by decide)) rfl (da_d (de_var (i := 5) rfl (.inl rfl)) (da_d (de_var (i := 4) rfl (.inl rfl)) da_nil))) da_nil))) da_nil))))))))
 (dss_one (ds_frz 3 (ds_ret (de_var (i := 3) rfl (.inl rfl)))))))
theorem ok_greatest_pull (T : Txt K mg) : Fnd P w K mg base 8 "greatest_pull" 3 W_greatest_pull := by
  have F_cable_slopes := ok_cable_slopes (P := P) (w := w) (base := base) T; have F_times := ok_times (P := P) (w := w) (base := base) T; have F_less := ok_less (P := P) (w := w) (base := base) T; have F_plus := ok_plus (P := P) (w := w) (base := base) T; have C_NOUGHT := T.C_NOUGHT; have C_UNIT := T.C_UNIT; have sc := sc_greatest_pull
  exact fnd_def T.D_greatest_pull sc (fun _ _ _ _ _ _ us hl => match us, hl with | [_, _, _], _ => rfl) fun f cdv A outer s H E B hr =>
   (dss_cons (ds_set (i := 3) sc.nd rfl (.inl rfl) (de_glob C_NOUGHT rfl))
 (dss_cons (ds_for (pu := true) (di_list (de_call F_cable_slopes hr rfl (da_d (de_var (i := 0) rfl (.inl rfl)) (da_d (de_var (i := 1) rfl (.inl rfl)) (da_d (de_var (i := 2) rfl (.inl rfl)) da_nil))))) (dg_name (i := 4) sc.nd rfl (.inl rfl))
 (dss_cons (ds_set (i := 5) sc.nd rfl (.inl rfl) (de_call F_times (hr.mono (by decide)) rfl (da_d (de_call F_times (hr.mono (by decide)) rfl (da_d (de_var (i := 2) rfl (.inl rfl)) (da_d (de_var (i := 2) rfl (.inl rfl)) da_nil))) (da_d (de_call F_plus (hr.mono (by decide)) rfl (da_d (de_glob C_UNIT rfl) (da_d (de_call F_times (hr.mono (by decide)) rfl (da_d (de_var (i := 4) rfl (.inl rfl)) (da_d (de_var (i := 4) rfl (.inl rfl)) da_nil))) da_nil))) da_nil))))
 (dss_one (ds_if (dt_tru (dr (de_call F_less (hr.mono (by decide)) rfl (da_d (de_var (i := 3) rfl (.inl rfl)) (da_d (de_var (i := 5) rfl (.inl rfl)) da_nil)))))
 (dss_one (ds_set (i := 3) sc.nd rfl (.inl rfl) (de_var (i := 5) rfl (.inl rfl))))
 dss_nil))))
 (dss_one (ds_ret (de_var (i := 3) rfl (.inl rfl))))))
theorem ok__law_gcd (T : Txt K mg) : Fnd P w K mg base 1 "_law_gcd" 2 W__law_gcd := by
  have M_int := T.M_int; have M_range := T.M_range; have sc := sc__law_gcd
  exact fnd_def T.D__law_gcd sc (fun _ _ _ _ _ _ us hl => match us, hl with | [_, _], _ => rfl) fun f cdv A outer s H E B hr =>
   (dss_cons (ds_for (pu := true) (di_rng1 de_int M_range) (dg_name (i := 2) sc.nd rfl (.inl rfl))
 (dss_cons (ds_if (dt_cp (cd_eq hr.units) (dr_var (i := 1) rfl (.inl rfl)) (dr de_int))
 (dss_one ds_brk)
 dss_nil)
 (dss_one (ds_par (i := 0) (j := 1) sc.nd rfl rfl (by decide) rfl rfl (de_var (i := 1) rfl (.inl rfl)) (de_mod (dr (de_bty call_int1 bd_int M_int (drs_cons (dr_var (i := 0) rfl (.inl rfl)) drs_nil))) (dr_var (i := 1) rfl (.inl rfl)))))))
 (dss_one (ds_ret (de_var (i := 0) rfl (.inl rfl)))))
theorem ok__law_ratio (T : Txt K mg) : Fnd P w K mg base 2 "_law_ratio" 2 W__law_ratio := by
  have F__law_gcd := ok__law_gcd (P := P) (w := w) (base := base) T; have M_abs := T.M_abs; have sc := sc__law_ratio
  exact fnd_def T.D__law_ratio sc (fun _ _ _ _ _ _ us hl => match us, hl with | [_, _], _ => rfl) fun f cdv A outer s H E B hr =>
   (dss_cons (ds_if (dt_cp cd_lt (dr_var (i := 1) rfl (.inl rfl)) (dr de_int))
 (dss_one (ds_par (i := 0) (j := 1) sc.nd rfl rfl (by decide) rfl rfl (de_neg (dr_var (i := 0) rfl (.inl rfl))) (de_neg (dr_var (i := 1) rfl (.inl rfl)))))
 dss_nil)
 (dss_cons (ds_set (i := 2) sc.nd rfl (.inl rfl) (de_call F__law_gcd hr rfl (da_d (de_blt call_abs bd_abs M_abs (drs_cons (dr_var (i := 0) rfl (.inl rfl)) drs_nil)) (da_d (de_var (i := 1) rfl (.inl rfl)) da_nil))))
 (dss_one (ds_ret (de_tup (dds_cons (de_div (dr_var (i := 0) rfl (.inl rfl)) (dr_var (i := 2) rfl (.inl rfl))) (dds_cons (de_div (dr_var (i := 1) rfl (.inl rfl)) (dr_var (i := 2) rfl (.inl rfl))) dds_nil)))))))
theorem ok__law_length (T : Txt K mg) : Fnd P w K mg base 4 "_law_length" 1 W__law_length := by
  have F__law_ratio := ok__law_ratio (P := P) (w := w) (base := base) T; have F__law_draw := ok__law_draw (P := P) (w := w) (base := base) T; have sc := sc__law_length
  exact fnd_def T.D__law_length sc (fun _ _ _ _ _ _ us hl => match us, hl with | [_], _ => rfl) fun f cdv A outer s H E B hr =>
   (dss_one (ds_ret (de_call F__law_ratio (hr.mono (by decide)) rfl (da_d (de_add (dr de_int) (dr (de_call F__law_draw hr rfl (da_pool (i := 0) rfl (.inl rfl) (da_d de_int da_nil))))) (da_d (de_add (dr de_int) (dr (de_call F__law_draw hr rfl (da_pool (i := 0) rfl (.inl rfl) (da_d de_int da_nil))))) da_nil)))))
theorem ok__law_part (T : Txt K mg) : Fnd P w K mg base 4 "_law_part" 3 W__law_part := by
  have F__law_ratio := ok__law_ratio (P := P) (w := w) (base := base) T; have F__law_draw := ok__law_draw (P := P) (w := w) (base := base) T; have sc := sc__law_part
  exact fnd_def T.D__law_part sc (fun _ _ _ _ _ _ us hl => match us, hl with | [_, _, _], _ => rfl) fun f cdv A outer s H E B hr =>
   (dss_one (ds_ret (de_call F__law_ratio (hr.mono (by decide)) rfl (da_d (de_mul (dr (de_idx (dr_var (i := 1) rfl (.inl rfl)) (dr de_int))) (dr (de_call F__law_draw hr rfl (da_pool (i := 0) rfl (.inl rfl) (da_d (de_add (dr_var (i := 2) rfl (.inl rfl)) (dr de_int)) da_nil))))) (da_d (de_mul (dr (de_idx (dr_var (i := 1) rfl (.inl rfl)) (dr de_int))) (dr_var (i := 2) rfl (.inl rfl))) da_nil)))))
theorem ok__law_points (T : Txt K mg) : Fnd P w K mg base 5 "_law_points" 3 W__law_points := by
  have F__law_draw := ok__law_draw (P := P) (w := w) (base := base) T; have F__law_next := ok__law_next (P := P) (w := w) (base := base) T; have F__law_part := ok__law_part (P := P) (w := w) (base := base) T; have F__law_ratio := ok__law_ratio (P := P) (w := w) (base := base) T; have M_int := T.M_int; have M_range := T.M_range; have sc := sc__law_points
  exact fnd_def T.D__law_points sc (fun _ _ _ _ _ _ us hl => match us, hl with | [_, _, _], _ => rfl) fun f cdv A outer s H E B hr =>
   (dss_cons (ds_own (i := 3) sc.nd rfl (.inl rfl) (dn_lst dds_nil))
 (dss_cons (ds_for (pu := true) (di_rng1 (de_add (dr de_int) (dr (de_call F__law_draw (hr.mono (by decide)) rfl (da_pool (i := 0) rfl (.inl rfl) (da_d (de_var (i := 2) rfl (.inl rfl)) da_nil))))) M_range) (dg_name (i := 4) sc.nd rfl (.inl rfl))
 (dss_cons (ds_if (dt_cp (cd_eq hr.units) (dr (de_mod (dr (de_bty call_int1 bd_int M_int (drs_cons (dr_var (i := 4) rfl (.inl rfl)) drs_nil))) (dr de_int))) (dr de_int))
 (dss_one (ds_drop (de_call F__law_next (hr.mono (by decide)) rfl (da_pool (i := 0) rfl (.inl rfl) da_nil))))
 dss_nil)
 (dss_one (ds_app (i := 3) rfl (.inl rfl) (de_tup (dds_cons de_str (dds_cons (de_call F__law_part hr rfl (da_pool (i := 0) rfl (.inl rfl) (da_d (de_var (i := 1) rfl (.inl rfl)) (da_d de_int da_nil)))) (dds_cons (de_call F__law_ratio (hr.mono (by decide)) rfl (da_d (de_call F__law_draw (hr.mono (by decide)) rfl (da_pool (i := 0) rfl (.inl rfl) (da_d de_int da_nil))) (da_d (de_add (dr de_int) (dr (de_call F__law_draw (hr.mono (by decide)) rfl (da_pool (i := 0) rfl (.inl rfl) (da_d de_int da_nil))))) da_nil))) dds_nil))))))))
 (dss_one (ds_frz 3 (ds_ret (de_var (i := 3) rfl (.inl rfl)))))))
theorem ok__law_mul (T : Txt K mg) : Fnd P w K mg base 3 "_law_mul" 2 W__law_mul := by
  have F__law_ratio := ok__law_ratio (P := P) (w := w) (base := base) T; have sc := sc__law_mul
  exact fnd_def T.D__law_mul sc (fun _ _ _ _ _ _ us hl => match us, hl with | [_, _], _ => rfl) fun f cdv A outer s H E B hr =>
   (dss_one (ds_ret (de_call F__law_ratio hr rfl (da_d (de_mul (dr (de_idx (dr_var (i := 0) rfl (.inl rfl)) (dr de_int))) (dr (de_idx (dr_var (i := 1) rfl (.inl rfl)) (dr de_int)))) (da_d (de_mul (dr (de_idx (dr_var (i := 0) rfl (.inl rfl)) (dr de_int))) (dr (de_idx (dr_var (i := 1) rfl (.inl rfl)) (dr de_int)))) da_nil)))))
theorem ok__law_add (T : Txt K mg) : Fnd P w K mg base 3 "_law_add" 2 W__law_add := by
  have F__law_ratio := ok__law_ratio (P := P) (w := w) (base := base) T; have sc := sc__law_add
  exact fnd_def T.D__law_add sc (fun _ _ _ _ _ _ us hl => match us, hl with | [_, _], _ => rfl) fun f cdv A outer s H E B hr =>
   (dss_one (ds_ret (de_call F__law_ratio hr rfl (da_d (de_add (dr (de_mul (dr (de_idx (dr_var (i := 0) rfl (.inl rfl)) (dr de_int))) (dr (de_idx (dr_var (i := 1) rfl (.inl rfl)) (dr de_int))))) (dr (de_mul (dr (de_idx (dr_var (i := 1) rfl (.inl rfl)) (dr de_int))) (dr (de_idx (dr_var (i := 0) rfl (.inl rfl)) (dr de_int)))))) (da_d (de_mul (dr (de_idx (dr_var (i := 0) rfl (.inl rfl)) (dr de_int))) (dr (de_idx (dr_var (i := 1) rfl (.inl rfl)) (dr de_int)))) da_nil)))))
theorem ok__law_sub (T : Txt K mg) : Fnd P w K mg base 3 "_law_sub" 2 W__law_sub := by
  have F__law_ratio := ok__law_ratio (P := P) (w := w) (base := base) T; have sc := sc__law_sub
  exact fnd_def T.D__law_sub sc (fun _ _ _ _ _ _ us hl => match us, hl with | [_, _], _ => rfl) fun f cdv A outer s H E B hr =>
   (dss_one (ds_ret (de_call F__law_ratio hr rfl (da_d (de_sub (dr (de_mul (dr (de_idx (dr_var (i := 0) rfl (.inl rfl)) (dr de_int))) (dr (de_idx (dr_var (i := 1) rfl (.inl rfl)) (dr de_int))))) (dr (de_mul (dr (de_idx (dr_var (i := 1) rfl (.inl rfl)) (dr de_int))) (dr (de_idx (dr_var (i := 0) rfl (.inl rfl)) (dr de_int)))))) (da_d (de_mul (dr (de_idx (dr_var (i := 0) rfl (.inl rfl)) (dr de_int))) (dr (de_idx (dr_var (i := 1) rfl (.inl rfl)) (dr de_int)))) da_nil)))))
theorem ok__law_force (T : Txt K mg) : Fnd P w K mg base 4 "_law_force" 1 W__law_force := by
  have F__law_mul := ok__law_mul (P := P) (w := w) (base := base) T; have F__law_sub := ok__law_sub (P := P) (w := w) (base := base) T; have sc := sc__law_force
  exact fnd_def T.D__law_force sc (fun _ _ _ _ _ _ us hl => match us, hl with | [_], _ => rfl) fun f cdv A outer s H E B hr =>
   (dss_cons (ds_if (dt_cp (cd_eq hr.units) (dr (de_idx (dr_var (i := 0) rfl (.inl rfl)) (dr de_int))) (dr de_str))
 (dss_one (ds_ret (de_idx (dr_var (i := 0) rfl (.inl rfl)) (dr de_int))))
 dss_nil)
 (dss_one (ds_ret (de_call F__law_mul hr rfl (da_d (de_idx (dr_var (i := 0) rfl (.inl rfl)) (dr de_int)) (da_d (de_call F__law_sub hr rfl (da_d (de_idx (dr_var (i := 0) rfl (.inl rfl)) (dr de_int)) (da_d (de_idx (dr_var (i := 0) rfl (.inl rfl)) (dr de_int)) da_nil))) da_nil))))))
theorem ok__law_div (T : Txt K mg) : Fnd P w K mg base 3 "_law_div" 2 W__law_div := by
  have F__law_ratio := ok__law_ratio (P := P) (w := w) (base := base) T; have sc := sc__law_div
  exact fnd_def T.D__law_div sc (fun _ _ _ _ _ _ us hl => match us, hl with | [_, _], _ => rfl) fun f cdv A outer s H E B hr =>
   (dss_one (ds_ret (de_call F__law_ratio hr rfl (da_d (de_mul (dr (de_idx (dr_var (i := 0) rfl (.inl rfl)) (dr de_int))) (dr (de_idx (dr_var (i := 1) rfl (.inl rfl)) (dr de_int)))) (da_d (de_mul (dr (de_idx (dr_var (i := 0) rfl (.inl rfl)) (dr de_int))) (dr (de_idx (dr_var (i := 1) rfl (.inl rfl)) (dr de_int)))) da_nil)))))
theorem ok__law_total (T : Txt K mg) : Fnd P w K mg base 4 "_law_total" 1 W__law_total_k29 := by
  have F__law_add := ok__law_add (P := P) (w := w) (base := base) T; have sc := sc__law_total
  exact fnd_def T.D__law_total sc (fun _ _ _ _ _ _ us hl => match us, hl with | [_], _ => rfl) fun f cdv A outer s H E B hr =>
   (dss_cons (ds_set (i := 1) sc.nd rfl (.inl rfl) (de_tup (dds_cons de_int (dds_cons de_int dds_nil))))
 (dss_cons (ds_for (pu := true) (di_list (de_var (i := 0) rfl (.inl rfl))) (dg_name (i := 2) sc.nd rfl (.inl rfl))
 (dss_one (ds_set (i := 1) sc.nd rfl (.inl rfl) (de_call F__law_add hr rfl (da_d (de_var (i := 1) rfl (.inl rfl)) (da_d (de_var (i := 2) rfl (.inl rfl)) da_nil))))))
 (dss_one (ds_ret (de_var (i := 1) rfl (.inl rfl))))))
theorem ok__law_simple (T : Txt K mg) : Fnd P w K mg base 5 "_law_simple" 2 W__law_simple := by
  have F__law_div := ok__law_div (P := P) (w := w) (base := base) T; have F__law_add := ok__law_add (P := P) (w := w) (base := base) T; have F__law_sub := ok__law_sub (P := P) (w := w) (base := base) T; have F__law_mul := ok__law_mul (P := P) (w := w) (base := base) T; have F__law_total := ok__law_total (P := P) (w := w) (base := base) T; have F__law_force := ok__law_force (P := P) (w := w) (base := base) T; have sc := sc__law_simple
  exact fnd_def T.D__law_simple sc (fun _ _ _ _ _ _ us hl => match us, hl with | [_, _], _ => rfl) fun f cdv A outer s H E B hr =>
   (dss_cons (ds_set (i := 2) sc.nd rfl (.inl rfl) (de_tup (dds_cons de_int (dds_cons de_int dds_nil))))
 (dss_cons (ds_for (pu := true) (di_list (de_var (i := 1) rfl (.inl rfl))) (dg_name (i := 3) sc.nd rfl (.inl rfl))
 (dss_cons (ds_set (i := 4) sc.nd rfl (.inl rfl) (de_if (dt_cp (cd_eq hr.units) (dr (de_idx (dr_var (i := 3) rfl (.inl rfl)) (dr de_int))) (dr de_str)) (de_idx (dr_var (i := 3) rfl (.inl rfl)) (dr de_int)) (de_call F__law_mul (hr.mono (by decide)) rfl (da_d (de_tup (dds_cons de_int (dds_cons de_int dds_nil))) (da_d (de_call F__law_add (hr.mono (by decide)) rfl (da_d (de_idx (dr_var (i := 3) rfl (.inl rfl)) (dr de_int)) (da_d (de_idx (dr_var (i := 3) rfl (.inl rfl)) (dr de_int)) da_nil))) da_nil)))))
 (dss_one (ds_set (i := 2) sc.nd rfl (.inl rfl) (de_call F__law_add (hr.mono (by decide)) rfl (da_d (de_var (i := 2) rfl (.inl rfl)) (da_d (de_call F__law_mul (hr.mono (by decide)) rfl (da_d (de_call F__law_force hr rfl (da_d (de_var (i := 3) rfl (.inl rfl)) da_nil)) (da_d (de_var (i := 4) rfl (.inl rfl)) da_nil))) da_nil)))))))
 (dss_cons (ds_set (i := 5) sc.nd rfl (.inl rfl) (de_call F__law_div (hr.mono (by decide)) rfl (da_d (de_var (i := 2) rfl (.inl rfl)) (da_d (de_var (i := 0) rfl (.inl rfl)) da_nil))))
 (dss_one (ds_ret (de_n (dn_lst (dds_cons (de_call F__law_sub (hr.mono (by decide)) rfl (da_d (de_call F__law_total hr rfl (da_d (de_n (dn_lc (own := [("load", 3)]) sc.nd (di_list (de_var (i := 1) rfl (.inl rfl))) (blkOk_by (show blkC ["length", "loads", "right", "load", "at", "push"] (defScope s__law_simple) _ _ = true by decide +kernel)) (fun _ _ _ _ _ => (dg_name (i := 3) sc.nd rfl (by first | exact .inl rfl | exact .inr rfl))) (fun _ _ _ _ _ => dts_nil) (fun _ _ _ _ _ => (de_call F__law_force hr rfl (da_d (de_var (i := 3) rfl (by first | exact .inl rfl | exact .inr (.inl rfl) | exact .inr (.inr rfl))) da_nil))))) da_nil)) (da_d (de_var (i := 5) rfl (.inl rfl)) da_nil))) (dds_cons (de_var (i := 5) rfl (.inl rfl)) dds_nil)))))))))
theorem ok__law_less (T : Txt K mg) : Fnd P w K mg base 1 "_law_less" 2 W__law_less := by
  have sc := sc__law_less
  exact fnd_def T.D__law_less sc (fun _ _ _ _ _ _ us hl => match us, hl with | [_, _], _ => rfl) fun f cdv A outer s H E B hr =>
   (dss_one (ds_ret (de_cp cd_lt (dr (de_mul (dr (de_idx (dr_var (i := 0) rfl (.inl rfl)) (dr de_int))) (dr (de_idx (dr_var (i := 1) rfl (.inl rfl)) (dr de_int))))) (dr (de_mul (dr (de_idx (dr_var (i := 1) rfl (.inl rfl)) (dr de_int))) (dr (de_idx (dr_var (i := 0) rfl (.inl rfl)) (dr de_int))))))))
theorem ok__law_turning (T : Txt K mg) : Fnd P w K mg base 4 "_law_turning" 2 W__law_turning := by
  have F__law_less := ok__law_less (P := P) (w := w) (base := base) T; have F__law_mul := ok__law_mul (P := P) (w := w) (base := base) T; have F__law_add := ok__law_add (P := P) (w := w) (base := base) T; have F__law_sub := ok__law_sub (P := P) (w := w) (base := base) T; have sc := sc__law_turning
  exact fnd_def T.D__law_turning sc (fun _ _ _ _ _ _ us hl => match us, hl with | [_, _], _ => rfl) fun f cdv A outer s H E B hr =>
   (dss_cons (ds_if (dt_cp (cd_eq hr.units) (dr (de_idx (dr_var (i := 0) rfl (.inl rfl)) (dr de_int))) (dr de_str))
 (dss_one (ds_ret (de_if (dt_not (dt_tru (dr (de_call F__law_less (hr.mono (by decide)) rfl (da_d (de_var (i := 1) rfl (.inl rfl)) (da_d (de_idx (dr_var (i := 0) rfl (.inl rfl)) (dr de_int)) da_nil)))))) (de_call F__law_mul hr rfl (da_d (de_idx (dr_var (i := 0) rfl (.inl rfl)) (dr de_int)) (da_d (de_call F__law_sub hr rfl (da_d (de_var (i := 1) rfl (.inl rfl)) (da_d (de_idx (dr_var (i := 0) rfl (.inl rfl)) (dr de_int)) da_nil))) da_nil))) (de_tup (dds_cons de_int (dds_cons de_int dds_nil))))))
 dss_nil)
 (dss_cons (ds_par (i := 2) (j := 3) sc.nd rfl rfl (by decide) rfl rfl (de_idx (dr_var (i := 0) rfl (.inl rfl)) (dr de_int)) (de_idx (dr_var (i := 0) rfl (.inl rfl)) (dr de_int)))
 (dss_cons (ds_if (dt_tru (dr (de_call F__law_less (hr.mono (by decide)) rfl (da_d (de_var (i := 1) rfl (.inl rfl)) (da_d (de_var (i := 2) rfl (.inl rfl)) da_nil)))))
 (dss_one (ds_ret (de_tup (dds_cons de_int (dds_cons de_int dds_nil)))))
 dss_nil)
 (dss_cons (ds_set (i := 4) sc.nd rfl (.inl rfl) (de_if (dt_tru (dr (de_call F__law_less (hr.mono (by decide)) rfl (da_d (de_var (i := 1) rfl (.inl rfl)) (da_d (de_var (i := 3) rfl (.inl rfl)) da_nil))))) (de_var (i := 1) rfl (.inl rfl)) (de_var (i := 3) rfl (.inl rfl))))
 (dss_cons (ds_set (i := 5) sc.nd rfl (.inl rfl) (de_call F__law_mul hr rfl (da_d (de_tup (dds_cons de_int (dds_cons de_int dds_nil))) (da_d (de_call F__law_add hr rfl (da_d (de_var (i := 2) rfl (.inl rfl)) (da_d (de_var (i := 4) rfl (.inl rfl)) da_nil))) da_nil))))
 (dss_one (ds_ret (de_call F__law_mul hr rfl (da_d (de_call F__law_mul hr rfl (da_d (de_idx (dr_var (i := 0) rfl (.inl rfl)) (dr de_int)) (da_d (de_call F__law_sub hr rfl (da_d (de_var (i := 4) rfl (.inl rfl)) (da_d (de_var (i := 2) rfl (.inl rfl)) da_nil))) da_nil))) (da_d (de_call F__law_sub hr rfl (da_d (de_var (i := 1) rfl (.inl rfl)) (da_d (de_var (i := 5) rfl (.inl rfl)) da_nil))) da_nil))))))))))
theorem ok__law_moment (T : Txt K mg) : Fnd P w K mg base 5 "_law_moment" 4 W__law_moment := by
  have F__law_sub := ok__law_sub (P := P) (w := w) (base := base) T; have F__law_less := ok__law_less (P := P) (w := w) (base := base) T; have F__law_add := ok__law_add (P := P) (w := w) (base := base) T; have F__law_turning := ok__law_turning (P := P) (w := w) (base := base) T; have F__law_mul := ok__law_mul (P := P) (w := w) (base := base) T; have M_len := T.M_len; have M_range := T.M_range; have sc := sc__law_moment
  exact fnd_def T.D__law_moment sc (fun _ _ _ _ _ _ us hl => match us, hl with | [_, _, _, _], _ => rfl) fun f cdv A outer s H E B hr =>
   (dss_cons (ds_set (i := 4) sc.nd rfl (.inl rfl) (de_tup (dds_cons de_int (dds_cons de_int dds_nil))))
 (dss_cons (ds_for (pu := true) (di_rng1 (de_blt call_len_seq bd_len M_len (drs_cons (dr_var (i := 0) rfl (.inl rfl)) drs_nil)) M_range) (dg_name (i := 5) sc.nd rfl (.inl rfl))
 (dss_one (ds_if (dt_not (dt_tru (dr (de_call F__law_less (hr.mono (by decide)) rfl (da_d (de_var (i := 3) rfl (.inl rfl)) (da_d (de_idx (dr_var (i := 0) rfl (.inl rfl)) (dr_var (i := 5) rfl (.inl rfl))) da_nil))))))
 (dss_one (ds_set (i := 4) sc.nd rfl (.inl rfl) (de_call F__law_add (hr.mono (by decide)) rfl (da_d (de_var (i := 4) rfl (.inl rfl)) (da_d (de_call F__law_mul (hr.mono (by decide)) rfl (da_d (de_idx (dr_var (i := 2) rfl (.inl rfl)) (dr_var (i := 5) rfl (.inl rfl))) (da_d (de_call F__law_sub (hr.mono (by decide)) rfl (da_d (de_var (i := 3) rfl (.inl rfl)) (da_d (de_idx (dr_var (i := 0) rfl (.inl rfl)) (dr_var (i := 5) rfl (.inl rfl))) da_nil))) da_nil))) da_nil)))))
 dss_nil)))
 (dss_cons (ds_for (pu := true) (di_list (de_var (i := 1) rfl (.inl rfl))) (dg_name (i := 6) sc.nd rfl (.inl rfl))
 (dss_one (ds_set (i := 4) sc.nd rfl (.inl rfl) (de_call F__law_sub (hr.mono (by decide)) rfl (da_d (de_var (i := 4) rfl (.inl rfl)) (da_d (de_call F__law_turning hr rfl (da_d (de_var (i := 6) rfl (.inl rfl)) (da_d (de_var (i := 3) rfl (.inl rfl)) da_nil))) da_nil))))))
 (dss_one (ds_ret (de_var (i := 4) rfl (.inl rfl)))))))
theorem okR__law_same (T : Txt K mg) : ∀ n, Fnd P w K mg base n "_law_same" 2 (R__law_same_k29 n)
 | 0 => fnd_zero T.D__law_same sc__law_same (fun _ _ _ _ _ _ us hl => match us, hl with | [_, _], _ => rfl)
 | n + 1 => by
   have F__law_same := okR__law_same T n; have M_bool := T.M_bool; have M_dict := T.M_dict; have M_int := T.M_int; have M_isinstance := T.M_isinstance; have M_len := T.M_len; have M_list := T.M_list; have M_range := T.M_range; have M_str := T.M_str; have M_tuple := T.M_tuple; have sc := sc__law_same
   exact fnd_def T.D__law_same sc (fun _ _ _ _ _ _ us hl => match us, hl with | [_, _], _ => rfl) fun f cdv A outer s H E B hr =>
    (dss_cons (ds_if (dt_cp cd_isN (dr_var (i := 1) rfl (.inl rfl)) (dr de_non))
 (dss_one (ds_ret (de_cp cd_isN (dr_var (i := 0) rfl (.inl rfl)) (dr de_non))))
 dss_nil)
 (dss_cons (ds_if (dt_cp cd_isB (dr_var (i := 1) rfl (.inl rfl)) (dr de_bl))
 (dss_one (ds_ret (de_cp cd_isB (dr_var (i := 0) rfl (.inl rfl)) (dr de_bl))))
 dss_nil)
 (dss_cons (ds_if (dt_cp cd_isB (dr_var (i := 1) rfl (.inl rfl)) (dr de_bl))
 (dss_one (ds_ret (de_cp cd_isB (dr_var (i := 0) rfl (.inl rfl)) (dr de_bl))))
 dss_nil)
 (dss_cons (ds_if (dt_tru (dr (de_isi k_int M_isinstance M_int (dr_var (i := 1) rfl (.inl rfl)))))
 (dss_one (ds_ret (de_and (de_isi k_int M_isinstance M_int (dr_var (i := 0) rfl (.inl rfl))) (de_and (de_not (de_isi k_bool M_isinstance M_bool (dr_var (i := 0) rfl (.inl rfl)))) (de_one (de_cp (cd_eq hr.units) (dr_var (i := 0) rfl (.inl rfl)) (dr_var (i := 1) rfl (.inl rfl))))))))
 dss_nil)
 (dss_cons (ds_if (dt_tru (dr (de_isi k_str M_isinstance M_str (dr_var (i := 1) rfl (.inl rfl)))))
 (dss_one (ds_ret (de_and (de_isi k_str M_isinstance M_str (dr_var (i := 0) rfl (.inl rfl))) (de_one (de_cp (cd_eq hr.units) (dr_var (i := 0) rfl (.inl rfl)) (dr_var (i := 1) rfl (.inl rfl)))))))
 dss_nil)
 (dss_cons (ds_if (dt_tru (dr (de_isi k_dict M_isinstance M_dict (dr_var (i := 1) rfl (.inl rfl)))))
 (dss_cons (ds_if (dt_w (dw_or (dt_not (dt_tru (dr (de_isi k_dict M_isinstance M_dict (dr_var (i := 0) rfl (.inl rfl)))))) (dw_or1 (dt_cp (cd_ne hr.units) (dr (de_blt call_len_seq bd_len M_len (drs_cons (dr_var (i := 0) rfl (.inl rfl)) drs_nil))) (dr (de_blt call_len_seq bd_len M_len (drs_cons (dr_var (i := 1) rfl (.inl rfl)) drs_nil)))))))
 (dss_one (ds_ret de_bl))
 dss_nil)
 (dss_cons (ds_for (pu := true) (di_list (de_var (i := 1) rfl (.inl rfl))) (dg_name (i := 2) sc.nd rfl (.inl rfl))
 (dss_one (ds_if (dt_w (dw_or (dt_cp (cd_notIn (hu65 hr)) (dr_var (i := 2) rfl (.inl rfl)) (dr_var (i := 0) rfl (.inl rfl))) (dw_or1 (dt_not (dt_tru (dr (de_call F__law_same hr rfl (da_d (de_idx (dr_var (i := 0) rfl (.inl rfl)) (dr_var (i := 2) rfl (.inl rfl))) (da_d (de_idx (dr_var (i := 1) rfl (.inl rfl)) (dr_var (i := 2) rfl (.inl rfl))) da_nil)))))))))
 (dss_one (ds_ret de_bl))
 dss_nil)))
 (dss_one (ds_ret de_bl))))
 dss_nil)
 (dss_cons (ds_if (dt_w (dw_or (dt_cp (cd_ne hr.units) (dr (de_isi k_tuple M_isinstance M_tuple (dr_var (i := 0) rfl (.inl rfl)))) (dr (de_isi k_tuple M_isinstance M_tuple (dr_var (i := 1) rfl (.inl rfl))))) (dw_or1 (dt_cp (cd_ne hr.units) (dr (de_isi k_list M_isinstance M_list (dr_var (i := 0) rfl (.inl rfl)))) (dr (de_isi k_list M_isinstance M_list (dr_var (i := 1) rfl (.inl rfl))))))))
 (dss_one (ds_ret de_bl))
 dss_nil)
 (dss_cons (ds_if (dt_cp (cd_ne hr.units) (dr (de_blt call_len_seq bd_len M_len (drs_cons (dr_var (i := 0) rfl (.inl rfl)) drs_nil))) (dr (de_blt call_len_seq bd_len M_len (drs_cons (dr_var (i := 1) rfl (.inl rfl)) drs_nil))))
 (dss_one (ds_ret de_bl))
 dss_nil)
 (dss_cons (ds_for (pu := true) (di_rng1 (de_blt call_len_seq bd_len M_len (drs_cons (dr_var (i := 1) rfl (.inl rfl)) drs_nil)) M_range) (dg_name (i := 3) sc.nd rfl (.inl rfl))
 (dss_one (ds_if (dt_not (dt_tru (dr (de_call F__law_same hr rfl (da_d (de_idx (dr_var (i := 0) rfl (.inl rfl)) (dr_var (i := 3) rfl (.inl rfl))) (da_d (de_idx (dr_var (i := 1) rfl (.inl rfl)) (dr_var (i := 3) rfl (.inl rfl))) da_nil))))))
 (dss_one (ds_ret de_bl))
 dss_nil)))
 (dss_one (ds_ret de_bl)))))))))))
theorem ok__law_same (T : Txt K mg) : Fnd P w K mg base 10 "_law_same" 2 W__law_same_k29 := okR__law_same T 10
theorem ok__law_breaks (T : Txt K mg) : Fnd P w K mg base 2 "_law_breaks" 3 W__law_breaks := by
  have F__law_less := ok__law_less (P := P) (w := w) (base := base) T; have M_len := T.M_len; have sc := sc__law_breaks
  exact fnd_def T.D__law_breaks sc (fun _ _ _ _ _ _ us hl => match us, hl with | [_, _, _], _ => rfl) fun f cdv A outer s H E B hr =>
   (dss_cons (ds_own (i := 3) sc.nd rfl (.inl rfl) (dn_add (dr (de_n (dn_lst (dds_cons (de_tup (dds_cons de_int (dds_cons de_int dds_nil))) (dds_cons (de_var (i := 0) rfl (.inl rfl)) dds_nil))))) (dr_var (i := 1) rfl (.inl rfl))))
 (dss_cons (ds_for (pu := true) (di_list (de_var (i := 2) rfl (.inl rfl))) (dg_name (i := 4) sc.nd rfl (.inl rfl))
 (dss_cons (ds_app (i := 3) rfl (.inl rfl) (de_idx (dr_var (i := 4) rfl (.inl rfl)) (dr de_int)))
 (dss_one (ds_if (dt_cp (cd_eq hr.units) (dr (de_idx (dr_var (i := 4) rfl (.inl rfl)) (dr de_int))) (dr de_str))
 (dss_one (ds_app (i := 3) rfl (.inl rfl) (de_idx (dr_var (i := 4) rfl (.inl rfl)) (dr de_int))))
 dss_nil))))
 (dss_cons (ds_set (i := 5) sc.nd rfl (.inl rfl) (de_n (dn_lst dds_nil)))
 (dss_cons (ds_frz 3 (ds_for (pu := true) (di_list (de_var (i := 3) rfl (.inl rfl))) (dg_name (i := 6) sc.nd rfl (.inr rfl))
 (dss_cons (ds_set (i := 7) sc.nd rfl (.inl rfl) (de_blt call_len_seq bd_len M_len (drs_cons (dr (de_n (dn_lc (own := [("y", 8)]) sc.nd (di_list (de_var (i := 5) rfl (.inl rfl))) (blkOk_by (show blkC ["length", "supports", "loads", "told", "load", "found", "x", "at", "y"] (defScope s__law_breaks) _ _ = true by decide +kernel)) (fun _ _ _ _ _ => (dg_name (i := 8) sc.nd rfl (by first | exact .inl rfl | exact .inr rfl))) (fun _ _ _ _ _ => (dts_one (dt_tru (dr (de_call F__law_less hr rfl (da_d (de_var (i := 8) rfl (by first | exact .inl rfl | exact .inr (.inl rfl) | exact .inr (.inr rfl))) (da_d (de_var (i := 6) rfl (by first | exact .inl rfl | exact .inr (.inl rfl) | exact .inr (.inr rfl))) da_nil))))))) (fun _ _ _ _ _ => (de_var (i := 8) rfl (by first | exact .inl rfl | exact .inr (.inl rfl) | exact .inr (.inr rfl))))))) drs_nil)))
 (dss_one (ds_if (dt_cp (cd_notIn (hu65 hr)) (dr_var (i := 6) rfl (.inr (.inl rfl))) (dr_var (i := 5) rfl (.inl rfl)))
 (dss_one (ds_set (i := 5) sc.nd rfl (.inl rfl) (de_add (dr (de_add (dr (de_slice (dr_var (i := 5) rfl (.inl rfl)) do_none (do_some (de_var (i := 7) rfl (.inl rfl))))) (dr (de_n (dn_lst (dds_cons (de_var (i := 6) rfl (.inr (.inl rfl))) dds_nil)))))) (dr (de_slice (dr_var (i := 5) rfl (.inl rfl)) (do_some (de_var (i := 7) rfl (.inl rfl))) do_none)))))
 dss_nil)))))
 (dss_one (ds_ret (de_var (i := 5) rfl (.inl rfl))))))))
theorem fok_law {f : Addr} {fd : FuncData} (F : FunD K "law" "law" (defArgs s_law) (defBody s_law) (defScope s_law) [] [] f fd) (T : Txt K mg) : FnOk P w K mg base CX0 11 f fd ["script"] (spLaw K) := by
  obtain ⟨fp, fdp, FP, gp⟩ := T.D__law_pool
  obtain ⟨R⟩ := rest_at (P := P) (w := w) (base := base) T
  have GP := fok__law_pool FP R
  have bp : Binds K fdp ["script"] [] := FP.bindsN fun _ _ _ _ _ _ us hl => match us, hl with | [_], _ => rfl
  have F__law_next := ok__law_next (P := P) (w := w) (base := base) T; have F__law_length := ok__law_length (P := P) (w := w) (base := base) T; have F__law_points := ok__law_points (P := P) (w := w) (base := base) T; have F__law_ratio := ok__law_ratio (P := P) (w := w) (base := base) T; have F__law_simple := ok__law_simple (P := P) (w := w) (base := base) T; have F__law_part := ok__law_part (P := P) (w := w) (base := base) T; have F__law_moment := ok__law_moment (P := P) (w := w) (base := base) T; have F__law_breaks := ok__law_breaks (P := P) (w := w) (base := base) T; have F__law_same := ok__law_same (P := P) (w := w) (base := base) T; have F_pull_for := ok_pull_for (P := P) (w := w) (base := base) T; have F__law_sub := ok__law_sub (P := P) (w := w) (base := base) T; have F__law_total := ok__law_total (P := P) (w := w) (base := base) T; have F__law_mul := ok__law_mul (P := P) (w := w) (base := base) T; have F__law_less := ok__law_less (P := P) (w := w) (base := base) T; have F__law_draw := ok__law_draw (P := P) (w := w) (base := base) T; have F_cable_sag := ok_cable_sag (P := P) (w := w) (base := base) T; have F__law_div := ok__law_div (P := P) (w := w) (base := base) T; have F_cable_slopes := ok_cable_slopes (P := P) (w := w) (base := base) T; have F__law_add := ok__law_add (P := P) (w := w) (base := base) T; have F_greatest_pull := ok_greatest_pull (P := P) (w := w) (base := base) T; have M_len := T.M_len; have M_list := T.M_list; have M_range := T.M_range;
  have sc := sc_law
  refine F.ok sc (fun vs H Q E h => ?_) (fun cdv A outer s H vs Q E hr h => ⟨_, PSs.nox (pss_cons (ps_set (i := 1) sc.nd rfl (.inl rfl) (pe_call GP (hr.mono (by decide)) rfl gp FP.kp bp .nil pass0 (pa_cons (pv 0) pa_nil)))
    (pss_ex (t := fun B => liftS K B B_law_k40) fun B => (show DSs _ B _ B_law_k40 from
   (dss_cons (ds_for (pu := true) (di_rng1 de_int M_range) (dg_name (i := 2) sc.nd rfl (.inl rfl))
 (dss_cons (ds_drop (de_call F__law_next (hr.mono (by decide)) rfl (da_pool (i := 1) rfl (.inl rfl) da_nil)))
 (dss_cons (ds_set (i := 3) sc.nd rfl (.inl rfl) (de_call F__law_length (hr.mono (by decide)) rfl (da_pool (i := 1) rfl (.inl rfl) da_nil)))
 (dss_cons (ds_set (i := 4) sc.nd rfl (.inl rfl) (de_call F__law_points (hr.mono (by decide)) rfl (da_pool (i := 1) rfl (.inl rfl) (da_d (de_var (i := 3) rfl (.inl rfl)) (da_d de_int da_nil)))))
 (dss_cons (ds_set (i := 5) sc.nd rfl (.inr rfl) (de_call F__law_ratio (hr.mono (by decide)) rfl (da_d (de_add (dr de_int) (dr (de_call F__law_draw (hr.mono (by decide)) rfl (da_pool (i := 1) rfl (.inl rfl) (da_d de_int da_nil))))) (da_d (de_add (dr de_int) (dr (de_call F__law_draw (hr.mono (by decide)) rfl (da_pool (i := 1) rfl (.inl rfl) (da_d de_int da_nil))))) da_nil))))
 (dss_cons (ds_set (i := 6) sc.nd rfl (.inl rfl) (de_n (dn_lst (dds_cons (de_tup (dds_cons de_int (dds_cons de_int dds_nil))) (dds_cons (de_var (i := 3) rfl (.inl rfl)) dds_nil)))))
 (dss_cons (ds_set (i := 7) sc.nd rfl (.inl rfl) (de_call F__law_simple (hr.mono (by decide)) rfl (da_d (de_var (i := 3) rfl (.inl rfl)) (da_d (de_var (i := 4) rfl (.inl rfl)) da_nil))))
 (dss_cons (ds_set (i := 8) sc.nd rfl (.inl rfl) (de_call F__law_part (hr.mono (by decide)) rfl (da_pool (i := 1) rfl (.inl rfl) (da_d (de_var (i := 3) rfl (.inl rfl)) (da_d de_int da_nil)))))
 (dss_cons (ds_set (i := 9) sc.nd rfl (.inl rfl) (de_call F__law_moment (hr.mono (by decide)) rfl (da_d (de_var (i := 6) rfl (.inl rfl)) (da_d (de_var (i := 4) rfl (.inl rfl)) (da_d (de_var (i := 7) rfl (.inl rfl)) (da_d (de_var (i := 8) rfl (.inl rfl)) da_nil))))))
 (dss_cons (ds_if (dt_not (dt_tru (dr (de_call F__law_same hr rfl (da_d (de_call F_cable_sag (hr.mono (by decide)) rfl (da_d (de_var (i := 3) rfl (.inl rfl)) (da_d (de_bty call_list_of bd_list M_list (drs_cons (dr_var (i := 4) rfl (.inl rfl)) drs_nil)) (da_d (de_var (i := 5) rfl (.inr (.inl rfl))) (da_d (de_var (i := 8) rfl (.inl rfl)) da_nil))))) (da_d (de_call F__law_div (hr.mono (by decide)) rfl (da_d (de_var (i := 9) rfl (.inl rfl)) (da_d (de_var (i := 5) rfl (.inr (.inl rfl))) da_nil))) da_nil))))))
 (dss_one (ds_ret de_bl))
 dss_nil)
 (dss_cons (ds_if (dt_cp cd_gt (dr (de_idx (dr_var (i := 9) rfl (.inl rfl)) (dr de_int))) (dr de_int))
 (dss_cons (ds_set (i := 10) sc.nd rfl (.inl rfl) (de_call F__law_ratio (hr.mono (by decide)) rfl (da_d (de_add (dr de_int) (dr (de_call F__law_draw (hr.mono (by decide)) rfl (da_pool (i := 1) rfl (.inl rfl) (da_d de_int da_nil))))) (da_d de_int da_nil))))
 (dss_cons (ds_set (i := 11) sc.nd rfl (.inl rfl) (de_call F_pull_for (hr.mono (by decide)) rfl (da_d (de_var (i := 3) rfl (.inl rfl)) (da_d (de_bty call_list_of bd_list M_list (drs_cons (dr_var (i := 4) rfl (.inl rfl)) drs_nil)) (da_d (de_var (i := 8) rfl (.inl rfl)) (da_d (de_var (i := 10) rfl (.inl rfl)) da_nil))))))
 (dss_one (ds_if (dt_w (dw_or (dt_not (dt_tru (dr (de_call F__law_same hr rfl (da_d (de_var (i := 11) rfl (.inl rfl)) (da_d (de_call F__law_div (hr.mono (by decide)) rfl (da_d (de_var (i := 9) rfl (.inl rfl)) (da_d (de_var (i := 10) rfl (.inl rfl)) da_nil))) da_nil)))))) (dw_or1 (dt_cp (cd_ne hr.units) (dr (de_call F_cable_sag (hr.mono (by decide)) rfl (da_d (de_var (i := 3) rfl (.inl rfl)) (da_d (de_var (i := 4) rfl (.inl rfl)) (da_d (de_var (i := 11) rfl (.inl rfl)) (da_d (de_var (i := 8) rfl (.inl rfl)) da_nil)))))) (dr_var (i := 10) rfl (.inl rfl))))))
 (dss_one (ds_ret de_bl))
 dss_nil))))
 dss_nil)
 (dss_cons (ds_set (i := 12) sc.nd rfl (.inr rfl) (de_call F__law_breaks (hr.mono (by decide)) rfl (da_d (de_var (i := 3) rfl (.inl rfl)) (da_d (de_n (dn_lst dds_nil)) (da_d (de_var (i := 4) rfl (.inl rfl)) da_nil)))))
 (dss_cons (ds_own (i := 13) sc.nd rfl (.inl rfl) (dn_lst dds_nil))
 (dss_cons (ds_for (pu := true) (di_rng1 (de_sub (dr (de_blt call_len_seq bd_len M_len (drs_cons (dr_var (i := 12) rfl (.inr (.inl rfl))) drs_nil))) (dr de_int)) M_range) (dg_name (i := 14) sc.nd rfl (.inr rfl))
 (dss_cons (ds_set (i := 15) sc.nd rfl (.inl rfl) (de_call F__law_sub (hr.mono (by decide)) rfl (da_d (de_call F__law_moment (hr.mono (by decide)) rfl (da_d (de_var (i := 6) rfl (.inl rfl)) (da_d (de_var (i := 4) rfl (.inl rfl)) (da_d (de_var (i := 7) rfl (.inl rfl)) (da_d (de_idx (dr_var (i := 12) rfl (.inr (.inl rfl))) (dr (de_add (dr_var (i := 14) rfl (.inr (.inl rfl))) (dr de_int)))) da_nil))))) (da_d (de_call F__law_moment (hr.mono (by decide)) rfl (da_d (de_var (i := 6) rfl (.inl rfl)) (da_d (de_var (i := 4) rfl (.inl rfl)) (da_d (de_var (i := 7) rfl (.inl rfl)) (da_d (de_idx (dr_var (i := 12) rfl (.inr (.inl rfl))) (dr_var (i := 14) rfl (.inr (.inl rfl)))) da_nil))))) da_nil))))
 (dss_one (ds_app (i := 13) rfl (.inl rfl) (de_call F__law_div (hr.mono (by decide)) rfl (da_d (de_call F__law_div (hr.mono (by decide)) rfl (da_d (de_var (i := 15) rfl (.inl rfl)) (da_d (de_call F__law_sub (hr.mono (by decide)) rfl (da_d (de_idx (dr_var (i := 12) rfl (.inr (.inl rfl))) (dr (de_add (dr_var (i := 14) rfl (.inr (.inl rfl))) (dr de_int)))) (da_d (de_idx (dr_var (i := 12) rfl (.inr (.inl rfl))) (dr_var (i := 14) rfl (.inr (.inl rfl)))) da_nil))) da_nil))) (da_d (de_var (i := 5) rfl (.inr (.inl rfl))) da_nil)))))))
 (dss_cons (ds_frz 13 (ds_if (dt_not (dt_tru (dr (de_call F__law_same hr rfl (da_d (de_call F_cable_slopes (hr.mono (by decide)) rfl (da_d (de_var (i := 3) rfl (.inl rfl)) (da_d (de_bty call_list_of bd_list M_list (drs_cons (dr_var (i := 4) rfl (.inl rfl)) drs_nil)) (da_d (de_var (i := 5) rfl (.inr (.inl rfl))) da_nil)))) (da_d (de_var (i := 13) rfl (.inl rfl)) da_nil))))))
 (dss_one (ds_ret de_bl))
 dss_nil))
 (dss_cons (ds_for (pu := true) (di_rng2 de_int (de_blt call_len_seq bd_len M_len (drs_cons (dr_var (i := 13) rfl (.inl rfl)) drs_nil)) M_range) (dg_name (i := 14) sc.nd rfl (.inr rfl))
 (dss_cons (ds_set (i := 16) sc.nd rfl (.inl rfl) (de_call F__law_total (hr.mono (by decide)) rfl (da_d (de_n (dn_lc (own := [("load", 21)]) sc.nd (di_list (de_var (i := 4) rfl (.inl rfl))) (blkOk_by (show blkC ["script", "pool", "turn", "length", "loads", "pull", "ends", "pushes", "x", "moment", "sag_of", "told", "breaks", "slopes", "k", "rise", "weight", "best", "slope", "square", "at_ends", "load"] (defScope s_law) _ _ = true by decide +kernel)) (fun _ _ _ _ _ => (dg_name (i := 21) sc.nd rfl (by first | exact .inl rfl | exact .inr rfl))) (fun _ _ _ _ _ => (dts_one (dt_cp (cd_eq hr.units) (dr (de_idx (dr_var (i := 21) rfl (by first | exact .inl rfl | exact .inr (.inl rfl) | exact .inr (.inr rfl))) (dr de_int))) (dr (de_idx (dr_var (i := 12) rfl (by first | exact .inl rfl | exact .inr (.inl rfl) | exact .inr (.inr rfl))) (dr_var (i := 14) rfl (by first | exact .inl rfl | exact .inr (.inl rfl) | exact .inr (.inr rfl)))))))) (fun _ _ _ _ _ => (de_idx (dr_var (i := 21) rfl (by first | exact .inl rfl | exact .inr (.inl rfl) | exact .inr (.inr rfl))) (dr de_int))))) da_nil)))
 (dss_one (ds_if (dt_cp (cd_ne hr.units) (dr (de_call F__law_sub (hr.mono (by decide)) rfl (da_d (de_idx (dr_var (i := 13) rfl (.inl rfl)) (dr (de_sub (dr_var (i := 14) rfl (.inr (.inl rfl))) (dr de_int)))) (da_d (de_idx (dr_var (i := 13) rfl (.inl rfl)) (dr_var (i := 14) rfl (.inr (.inl rfl)))) da_nil)))) (dr (de_call F__law_div (hr.mono (by decide)) rfl (da_d (de_var (i := 16) rfl (.inl rfl)) (da_d (de_var (i := 5) rfl (.inr (.inl rfl))) da_nil)))))
 (dss_one (ds_ret de_bl))
 dss_nil))))
 (dss_cons (ds_set (i := 17) sc.nd rfl (.inl rfl) (de_tup (dds_cons de_int (dds_cons de_int dds_nil))))
 (dss_cons (ds_frz 13 (ds_for (pu := true) (di_list (de_var (i := 13) rfl (.inl rfl))) (dg_name (i := 18) sc.nd rfl (.inl rfl))
 (dss_cons (ds_set (i := 19) sc.nd rfl (.inl rfl) (de_call F__law_mul (hr.mono (by decide)) rfl (da_d (de_call F__law_mul (hr.mono (by decide)) rfl (da_d (de_var (i := 5) rfl (.inr (.inl rfl))) (da_d (de_var (i := 5) rfl (.inr (.inl rfl))) da_nil))) (da_d (de_call F__law_add (hr.mono (by decide)) rfl (da_d (de_tup (dds_cons de_int (dds_cons de_int dds_nil))) (da_d (de_call F__law_mul (hr.mono (by decide)) rfl (da_d (de_var (i := 18) rfl (.inl rfl)) (da_d (de_var (i := 18) rfl (.inl rfl)) da_nil))) da_nil))) da_nil))))
 (dss_one (ds_if (dt_tru (dr (de_call F__law_less (hr.mono (by decide)) rfl (da_d (de_var (i := 17) rfl (.inl rfl)) (da_d (de_var (i := 19) rfl (.inl rfl)) da_nil)))))
 (dss_one (ds_set (i := 17) sc.nd rfl (.inl rfl) (de_var (i := 19) rfl (.inl rfl))))
 dss_nil)))))
 (dss_cons (ds_if (dt_not (dt_tru (dr (de_call F__law_same hr rfl (da_d (de_call F_greatest_pull (hr.mono (by decide)) rfl (da_d (de_var (i := 3) rfl (.inl rfl)) (da_d (de_bty call_list_of bd_list M_list (drs_cons (dr_var (i := 4) rfl (.inl rfl)) drs_nil)) (da_d (de_var (i := 5) rfl (.inr (.inl rfl))) da_nil)))) (da_d (de_var (i := 17) rfl (.inl rfl)) da_nil))))))
 (dss_one (ds_ret de_bl))
 dss_nil)
 (dss_cons (ds_setLc (i := 20) (own := [("slope", 18)]) sc.nd rfl rfl (sw_true rfl rfl rfl (by decide +kernel)) (di_list (de_n (dn_lst (dds_cons (de_idx (dr_var (i := 13) rfl (.inl rfl)) (dr de_int)) (dds_cons (de_idx (dr_var (i := 13) rfl (.inl rfl)) (dr (de_neg (dr de_int)))) dds_nil))))) (blkOk_by (show blkC ["script", "pool", "turn", "length", "loads", "pull", "ends", "pushes", "x", "moment", "sag_of", "told", "breaks", "slopes", "k", "rise", "weight", "best", "slope", "square", "at_ends", "load"] (defScope s_law) _ _ = true by decide +kernel)) (fun _ _ _ _ _ => (dg_name (i := 18) sc.nd rfl (by first | exact .inl rfl | exact .inr rfl))) (fun _ _ _ _ _ => dts_nil) (fun _ _ _ _ _ => (de_call F__law_mul (hr.mono (by decide)) rfl (da_d (de_call F__law_mul (hr.mono (by decide)) rfl (da_d (de_var (i := 5) rfl (by first | exact .inl rfl | exact .inr (.inl rfl) | exact .inr (.inr rfl))) (da_d (de_var (i := 5) rfl (by first | exact .inl rfl | exact .inr (.inl rfl) | exact .inr (.inr rfl))) da_nil))) (da_d (de_call F__law_add (hr.mono (by decide)) rfl (da_d (de_tup (dds_cons de_int (dds_cons de_int dds_nil))) (da_d (de_call F__law_mul (hr.mono (by decide)) rfl (da_d (de_var (i := 18) rfl (by first | exact .inl rfl | exact .inr (.inl rfl) | exact .inr (.inr rfl))) (da_d (de_var (i := 18) rfl (by first | exact .inl rfl | exact .inr (.inl rfl) | exact .inr (.inr rfl))) da_nil))) da_nil))) da_nil)))))
 (dss_one (ds_if (dt_cp (cd_notIn (hu65 hr)) (dr_var (i := 17) rfl (.inl rfl)) (dr_var (i := 20) rfl (.inl rfl)))
 (dss_one (ds_ret de_bl))
 dss_nil))))))))))))))))))))))
 (dss_one (ds_ret de_bl)))))), ?_⟩)
  · obtain ⟨a, ns, rfl, _⟩ := h
    rfl
  · obtain ⟨a, ns, rfl, hS, hQ⟩ := h
    exact ⟨_, rfl, a, ns, rfl, hS, fun l v H1 hs hl => law_start (n := 20) hS hs hl rfl (Nat.le_of_eq rfl) (fun E hE => law40 hE) hQ⟩
end
section
def h_frac : He.DefD := ⟨("frac", none), "frac", "frac", defArgs s_frac, defBody s_frac, defScope s_frac, [], []⟩
def h_plus : He.DefD := ⟨("plus", none), "plus", "plus", defArgs s_plus, defBody s_plus, defScope s_plus, [], []⟩
def h_minus : He.DefD := ⟨("minus", none), "minus", "minus", defArgs s_minus, defBody s_minus, defScope s_minus, [], []⟩
def h_times : He.DefD := ⟨("times", none), "times", "times", defArgs s_times, defBody s_times, defScope s_times, [], []⟩
def h_over : He.DefD := ⟨("over", none), "over", "over", defArgs s_over, defBody s_over, defScope s_over, [], []⟩
def h_less : He.DefD := ⟨("less", none), "less", "less", defArgs s_less, defBody s_less, defScope s_less, [], []⟩
def h_sum_of : He.DefD := ⟨("sum_of", none), "sum_of", "sum_of", defArgs s_sum_of, defBody s_sum_of, defScope s_sum_of, [], []⟩
def h_value_at : He.DefD := ⟨("value_at", none), "value_at", "value_at", defArgs s_value_at, defBody s_value_at, defScope s_value_at, [], []⟩
def h_whole_of : He.DefD := ⟨("whole_of", none), "whole_of", "whole_of", defArgs s_whole_of, defBody s_whole_of, defScope s_whole_of, [], []⟩
def h_two_pushes : He.DefD := ⟨("two_pushes", none), "two_pushes", "two_pushes", defArgs s_two_pushes, defBody s_two_pushes, defScope s_two_pushes, [], []⟩
def h_places_in : He.DefD := ⟨("places_in", none), "places_in", "places_in", defArgs s_places_in, defBody s_places_in, defScope s_places_in, [], []⟩
def h_moment_of : He.DefD := ⟨("moment_of", none), "moment_of", "moment_of", defArgs s_moment_of, defBody s_moment_of, defScope s_moment_of, [], []⟩
def h_spread_moment : He.DefD := ⟨("spread_moment", none), "spread_moment", "spread_moment", defArgs s_spread_moment, defBody s_spread_moment, defScope s_spread_moment, [], []⟩
def h_pieces : He.DefD := ⟨("pieces", none), "pieces", "pieces", defArgs s_pieces, defBody s_pieces, defScope s_pieces, [], []⟩
def h_moment_at : He.DefD := ⟨("moment_at", none), "moment_at", "moment_at", defArgs s_moment_at, defBody s_moment_at, defScope s_moment_at, [], []⟩
def h_hinged : He.DefD := ⟨("hinged", none), "hinged", "hinged", defArgs s_hinged, defBody s_hinged, defScope s_hinged, [], []⟩
def h_cable_sag : He.DefD := ⟨("cable_sag", none), "cable_sag", "cable_sag", defArgs s_cable_sag, defBody s_cable_sag, defScope s_cable_sag, [], []⟩
def h_pull_for : He.DefD := ⟨("pull_for", none), "pull_for", "pull_for", defArgs s_pull_for, defBody s_pull_for, defScope s_pull_for, [], []⟩
def h_cable_slopes : He.DefD := ⟨("cable_slopes", none), "cable_slopes", "cable_slopes", defArgs s_cable_slopes, defBody s_cable_slopes, defScope s_cable_slopes, [], []⟩
def h_greatest_pull : He.DefD := ⟨("greatest_pull", none), "greatest_pull", "greatest_pull", defArgs s_greatest_pull, defBody s_greatest_pull, defScope s_greatest_pull, [], []⟩
def h__law_mixed : He.DefD := ⟨("_law_mixed", none), "_law_mixed", "_law_mixed", defArgs s__law_mixed, defBody s__law_mixed, defScope s__law_mixed, [], []⟩
def h__law_rest : He.DefD := ⟨("_law_rest", none), "_law_rest", "_law_rest", defArgs s__law_rest, defBody s__law_rest, defScope s__law_rest, [], []⟩
def h__law_pool : He.DefD := ⟨("_law_pool", none), "_law_pool", "_law_pool", defArgs s__law_pool, defBody s__law_pool, defScope s__law_pool, [], []⟩
def h__law_next : He.DefD := ⟨("_law_next", none), "_law_next", "_law_next", defArgs s__law_next, defBody s__law_next, defScope s__law_next, [], []⟩
def h__law_gcd : He.DefD := ⟨("_law_gcd", none), "_law_gcd", "_law_gcd", defArgs s__law_gcd, defBody s__law_gcd, defScope s__law_gcd, [], []⟩
def h__law_ratio : He.DefD := ⟨("_law_ratio", none), "_law_ratio", "_law_ratio", defArgs s__law_ratio, defBody s__law_ratio, defScope s__law_ratio, [], []⟩
def h__law_draw : He.DefD := ⟨("_law_draw", none), "_law_draw", "_law_draw", defArgs s__law_draw, defBody s__law_draw, defScope s__law_draw, [], []⟩
def h__law_length : He.DefD := ⟨("_law_length", none), "_law_length", "_law_length", defArgs s__law_length, defBody s__law_length, defScope s__law_length, [], []⟩
def h__law_part : He.DefD := ⟨("_law_part", none), "_law_part", "_law_part", defArgs s__law_part, defBody s__law_part, defScope s__law_part, [], []⟩
def h__law_points : He.DefD := ⟨("_law_points", none), "_law_points", "_law_points", defArgs s__law_points, defBody s__law_points, defScope s__law_points, [], []⟩
def h__law_mul : He.DefD := ⟨("_law_mul", none), "_law_mul", "_law_mul", defArgs s__law_mul, defBody s__law_mul, defScope s__law_mul, [], []⟩
def h__law_add : He.DefD := ⟨("_law_add", none), "_law_add", "_law_add", defArgs s__law_add, defBody s__law_add, defScope s__law_add, [], []⟩
def h__law_sub : He.DefD := ⟨("_law_sub", none), "_law_sub", "_law_sub", defArgs s__law_sub, defBody s__law_sub, defScope s__law_sub, [], []⟩
def h__law_force : He.DefD := ⟨("_law_force", none), "_law_force", "_law_force", defArgs s__law_force, defBody s__law_force, defScope s__law_force, [], []⟩
def h__law_div : He.DefD := ⟨("_law_div", none), "_law_div", "_law_div", defArgs s__law_div, defBody s__law_div, defScope s__law_div, [], []⟩
def h__law_total : He.DefD := ⟨("_law_total", none), "_law_total", "_law_total", defArgs s__law_total, defBody s__law_total, defScope s__law_total, [], []⟩
def h__law_simple : He.DefD := ⟨("_law_simple", none), "_law_simple", "_law_simple", defArgs s__law_simple, defBody s__law_simple, defScope s__law_simple, [], []⟩
def h__law_less : He.DefD := ⟨("_law_less", none), "_law_less", "_law_less", defArgs s__law_less, defBody s__law_less, defScope s__law_less, [], []⟩
def h__law_turning : He.DefD := ⟨("_law_turning", none), "_law_turning", "_law_turning", defArgs s__law_turning, defBody s__law_turning, defScope s__law_turning, [], []⟩
def h__law_moment : He.DefD := ⟨("_law_moment", none), "_law_moment", "_law_moment", defArgs s__law_moment, defBody s__law_moment, defScope s__law_moment, [], []⟩
def h__law_same : He.DefD := ⟨("_law_same", none), "_law_same", "_law_same", defArgs s__law_same, defBody s__law_same, defScope s__law_same, [], []⟩
def h__law_breaks : He.DefD := ⟨("_law_breaks", none), "_law_breaks", "_law_breaks", defArgs s__law_breaks, defBody s__law_breaks, defScope s__law_breaks, [], []⟩
def h_law : He.DefD := ⟨("law", none), "law", "law", defArgs s_law, defBody s_law, defScope s_law, [], []⟩
def fn : List He.DefD := [h_frac, h_plus, h_minus, h_times, h_over, h_less, h_sum_of, h_value_at, h_whole_of, h_two_pushes, h_places_in, h_moment_of, h_spread_moment, h_pieces, h_moment_at, h_hinged, h_cable_sag, h_pull_for, h_cable_slopes, h_greatest_pull, h__law_mixed, h__law_rest, h__law_pool, h__law_next, h__law_gcd, h__law_ratio, h__law_draw, h__law_length, h__law_part, h__law_points, h__law_mul, h__law_add, h__law_sub, h__law_force, h__law_div, h__law_total, h__law_simple, h__law_less, h__law_turning, h__law_moment, h__law_same, h__law_breaks, h_law]
def fa : List He.Fa := [.glo "frac", .glo "plus", .glo "minus", .glo "times", .glo "over", .glo "less", .glo "sum_of", .glo "value_at", .glo "whole_of", .glo "two_pushes", .glo "places_in", .glo "moment_of", .glo "spread_moment", .glo "pieces", .glo "moment_at", .glo "hinged", .glo "cable_sag", .glo "pull_for", .glo "cable_slopes", .glo "greatest_pull", .glo "_law_mixed", .glo "_law_rest", .glo "_law_pool", .glo "_law_next", .glo "_law_gcd", .glo "_law_ratio", .glo "_law_draw", .glo "_law_length", .glo "_law_part", .glo "_law_points", .glo "_law_mul", .glo "_law_add", .glo "_law_sub", .glo "_law_force", .glo "_law_div", .glo "_law_total", .glo "_law_simple", .glo "_law_less", .glo "_law_turning", .glo "_law_moment", .glo "_law_same", .glo "_law_breaks", .glo "law", .glo "NOUGHT", .glo "UNIT", .glo "HALF", .free "abs", .free "bool", .free "dict", .free "int", .free "isinstance", .free "len", .free "list", .free "range", .free "str", .free "tuple", .free "zip"]
def ex (K : PySem.W.Frag) : Bool := (He.tupB K "NOUGHT" [.int 0, .int 1] && (He.tupB K "UNIT" [.int 1, .int 1] && (He.tupB K "HALF" [.int 1, .int 2] && (He.eqO (PySem.W.nsIn K mainGlobals "gcd") (some (some (.builtin "math.gcd"))) && true))))
abbrev R : PySem.W.OpenRow := PySem.W.OpenLaw.row PySem.Challenge.rw_trusswork_k40_whole_cables
abbrev hk : PySem.W.Hook := He.hookX 4 fa fn [] [] ex
def ob (s : PySem.W.SharedT) : He.AlX := He.obsX 4 fa fn [] [] ex (HandSHeadRun.getT s)
theorem ob_eq (s : PySem.W.SharedT) : ob s = hk.obs s.abs := He.obsX_eq (HandSHeadRun.getT_eq s)
def loose0 : List Str := ["NOUGHT", "UNIT", "frac", "plus", "minus", "times", "over", "less", "sum_of", "value_at", "HALF", "whole_of", "two_pushes", "places_in", "moment_of", "spread_moment", "pieces", "moment_at", "hinged", "cable_sag", "pull_for", "cable_slopes", "greatest_pull", "_law_mixed", "_law_rest", "_law_pool", "_law_next", "_law_gcd", "_law_ratio", "_law_draw"]
def loose1 : List Str := ["_law_length", "_law_part", "_law_points", "_law_mul", "_law_add", "_law_sub", "_law_force", "_law_div", "_law_total", "_law_simple", "_law_less", "_law_turning", "_law_moment", "_law_same", "_law_breaks"]
abbrev loose : List Str := loose0 ++ loose1
theorem run (w : World) : HandSHeadRun.RunEqI R (PySem.W.view R.prog [0, 51]) hk ob 20000 loose w := by
  unfold HandSHeadRun.RunEqI
  kernel_rfl
theorem txt {K : PySem.W.Frag} {w : World} {h h' : Heap} {mg : Str → Option Value} (X : K.In h) (G : h.Ns mainGlobals mg) (c : He.SaysX fa fn [] [] ex w h' K) : Txt K mg := by
  obtain ⟨x0, y0⟩ := He.ba c.more
  obtain ⟨x1, y1⟩ := He.ba y0
  obtain ⟨x2, y2⟩ := He.ba y1
  obtain ⟨x3, y3⟩ := He.ba y2
  exact {
    M_abs := He.free_ok X G (c.t.d.fact 46 (f := .free "abs") rfl)
    M_bool := He.free_ok X G (c.t.d.fact 47 (f := .free "bool") rfl)
    M_dict := He.free_ok X G (c.t.d.fact 48 (f := .free "dict") rfl)
    M_int := He.free_ok X G (c.t.d.fact 49 (f := .free "int") rfl)
    M_isinstance := He.free_ok X G (c.t.d.fact 50 (f := .free "isinstance") rfl)
    M_len := He.free_ok X G (c.t.d.fact 51 (f := .free "len") rfl)
    M_list := He.free_ok X G (c.t.d.fact 52 (f := .free "list") rfl)
    M_range := He.free_ok X G (c.t.d.fact 53 (f := .free "range") rfl)
    M_str := He.free_ok X G (c.t.d.fact 54 (f := .free "str") rfl)
    M_tuple := He.free_ok X G (c.t.d.fact 55 (f := .free "tuple") rfl)
    M_zip := He.free_ok X G (c.t.d.fact 56 (f := .free "zip") rfl)
    M_gcd := PySem.W.mg_of X G (He.eqO_ok x3)
    C_NOUGHT := kc_tup (He.glo_ok X G (c.t.d.fact 43 (f := .glo "NOUGHT") rfl)) (fun H => He.tupB_ok x0 H) (fun G => (.cons (.int _) (.cons (.int _) .nil)))
    C_UNIT := kc_tup (He.glo_ok X G (c.t.d.fact 44 (f := .glo "UNIT") rfl)) (fun H => He.tupB_ok x1 H) (fun G => (.cons (.int _) (.cons (.int _) .nil)))
    C_HALF := kc_tup (He.glo_ok X G (c.t.d.fact 45 (f := .glo "HALF") rfl)) (fun H => He.tupB_ok x2 H) (fun G => (.cons (.int _) (.cons (.int _) .nil)))
    D_frac := by
      obtain ⟨fd, F⟩ := c.t.d.def_ 0 (d := h_frac) rfl
      exact ⟨_, fd, F, He.glo_ok X G (c.t.d.fact 0 (f := .glo "frac") rfl)⟩
    D_plus := by
      obtain ⟨fd, F⟩ := c.t.d.def_ 1 (d := h_plus) rfl
      exact ⟨_, fd, F, He.glo_ok X G (c.t.d.fact 1 (f := .glo "plus") rfl)⟩
    D_minus := by
      obtain ⟨fd, F⟩ := c.t.d.def_ 2 (d := h_minus) rfl
      exact ⟨_, fd, F, He.glo_ok X G (c.t.d.fact 2 (f := .glo "minus") rfl)⟩
    D_times := by
      obtain ⟨fd, F⟩ := c.t.d.def_ 3 (d := h_times) rfl
      exact ⟨_, fd, F, He.glo_ok X G (c.t.d.fact 3 (f := .glo "times") rfl)⟩
    D_over := by
      obtain ⟨fd, F⟩ := c.t.d.def_ 4 (d := h_over) rfl
      exact ⟨_, fd, F, He.glo_ok X G (c.t.d.fact 4 (f := .glo "over") rfl)⟩
    D_less := by
      obtain ⟨fd, F⟩ := c.t.d.def_ 5 (d := h_less) rfl
      exact ⟨_, fd, F, He.glo_ok X G (c.t.d.fact 5 (f := .glo "less") rfl)⟩
    D_sum_of := by
      obtain ⟨fd, F⟩ := c.t.d.def_ 6 (d := h_sum_of) rfl
      exact ⟨_, fd, F, He.glo_ok X G (c.t.d.fact 6 (f := .glo "sum_of") rfl)⟩
    D_value_at := by
      obtain ⟨fd, F⟩ := c.t.d.def_ 7 (d := h_value_at) rfl
      exact ⟨_, fd, F, He.glo_ok X G (c.t.d.fact 7 (f := .glo "value_at") rfl)⟩
    D_whole_of := by
      obtain ⟨fd, F⟩ := c.t.d.def_ 8 (d := h_whole_of) rfl
      exact ⟨_, fd, F, He.glo_ok X G (c.t.d.fact 8 (f := .glo "whole_of") rfl)⟩
    D_two_pushes := by
      obtain ⟨fd, F⟩ := c.t.d.def_ 9 (d := h_two_pushes) rfl
      exact ⟨_, fd, F, He.glo_ok X G (c.t.d.fact 9 (f := .glo "two_pushes") rfl)⟩
    D_places_in := by
      obtain ⟨fd, F⟩ := c.t.d.def_ 10 (d := h_places_in) rfl
      exact ⟨_, fd, F, He.glo_ok X G (c.t.d.fact 10 (f := .glo "places_in") rfl)⟩
    D_moment_of := by
      obtain ⟨fd, F⟩ := c.t.d.def_ 11 (d := h_moment_of) rfl
      exact ⟨_, fd, F, He.glo_ok X G (c.t.d.fact 11 (f := .glo "moment_of") rfl)⟩
    D_spread_moment := by
      obtain ⟨fd, F⟩ := c.t.d.def_ 12 (d := h_spread_moment) rfl
      exact ⟨_, fd, F, He.glo_ok X G (c.t.d.fact 12 (f := .glo "spread_moment") rfl)⟩
    D_pieces := by
      obtain ⟨fd, F⟩ := c.t.d.def_ 13 (d := h_pieces) rfl
      exact ⟨_, fd, F, He.glo_ok X G (c.t.d.fact 13 (f := .glo "pieces") rfl)⟩
    D_moment_at := by
      obtain ⟨fd, F⟩ := c.t.d.def_ 14 (d := h_moment_at) rfl
      exact ⟨_, fd, F, He.glo_ok X G (c.t.d.fact 14 (f := .glo "moment_at") rfl)⟩
    D_hinged := by
      obtain ⟨fd, F⟩ := c.t.d.def_ 15 (d := h_hinged) rfl
      exact ⟨_, fd, F, He.glo_ok X G (c.t.d.fact 15 (f := .glo "hinged") rfl)⟩
    D_cable_sag := by
      obtain ⟨fd, F⟩ := c.t.d.def_ 16 (d := h_cable_sag) rfl
      exact ⟨_, fd, F, He.glo_ok X G (c.t.d.fact 16 (f := .glo "cable_sag") rfl)⟩
    D_pull_for := by
      obtain ⟨fd, F⟩ := c.t.d.def_ 17 (d := h_pull_for) rfl
      exact ⟨_, fd, F, He.glo_ok X G (c.t.d.fact 17 (f := .glo "pull_for") rfl)⟩
    D_cable_slopes := by
      obtain ⟨fd, F⟩ := c.t.d.def_ 18 (d := h_cable_slopes) rfl
      exact ⟨_, fd, F, He.glo_ok X G (c.t.d.fact 18 (f := .glo "cable_slopes") rfl)⟩
    D_greatest_pull := by
      obtain ⟨fd, F⟩ := c.t.d.def_ 19 (d := h_greatest_pull) rfl
      exact ⟨_, fd, F, He.glo_ok X G (c.t.d.fact 19 (f := .glo "greatest_pull") rfl)⟩
    D__law_mixed := by
      obtain ⟨fd, F⟩ := c.t.d.def_ 20 (d := h__law_mixed) rfl
      exact ⟨_, fd, F, He.glo_ok X G (c.t.d.fact 20 (f := .glo "_law_mixed") rfl)⟩
    D__law_rest := by
      obtain ⟨fd, F⟩ := c.t.d.def_ 21 (d := h__law_rest) rfl
      exact ⟨_, fd, F, He.glo_ok X G (c.t.d.fact 21 (f := .glo "_law_rest") rfl)⟩
    D__law_pool := by
      obtain ⟨fd, F⟩ := c.t.d.def_ 22 (d := h__law_pool) rfl
      exact ⟨_, fd, F, He.glo_ok X G (c.t.d.fact 22 (f := .glo "_law_pool") rfl)⟩
    D__law_next := by
      obtain ⟨fd, F⟩ := c.t.d.def_ 23 (d := h__law_next) rfl
      exact ⟨_, fd, F, He.glo_ok X G (c.t.d.fact 23 (f := .glo "_law_next") rfl)⟩
    D__law_gcd := by
      obtain ⟨fd, F⟩ := c.t.d.def_ 24 (d := h__law_gcd) rfl
      exact ⟨_, fd, F, He.glo_ok X G (c.t.d.fact 24 (f := .glo "_law_gcd") rfl)⟩
    D__law_ratio := by
      obtain ⟨fd, F⟩ := c.t.d.def_ 25 (d := h__law_ratio) rfl
      exact ⟨_, fd, F, He.glo_ok X G (c.t.d.fact 25 (f := .glo "_law_ratio") rfl)⟩
    D__law_draw := by
      obtain ⟨fd, F⟩ := c.t.d.def_ 26 (d := h__law_draw) rfl
      exact ⟨_, fd, F, He.glo_ok X G (c.t.d.fact 26 (f := .glo "_law_draw") rfl)⟩
    D__law_length := by
      obtain ⟨fd, F⟩ := c.t.d.def_ 27 (d := h__law_length) rfl
      exact ⟨_, fd, F, He.glo_ok X G (c.t.d.fact 27 (f := .glo "_law_length") rfl)⟩
    D__law_part := by
      obtain ⟨fd, F⟩ := c.t.d.def_ 28 (d := h__law_part) rfl
      exact ⟨_, fd, F, He.glo_ok X G (c.t.d.fact 28 (f := .glo "_law_part") rfl)⟩
    D__law_points := by
      obtain ⟨fd, F⟩ := c.t.d.def_ 29 (d := h__law_points) rfl
      exact ⟨_, fd, F, He.glo_ok X G (c.t.d.fact 29 (f := .glo "_law_points") rfl)⟩
    D__law_mul := by
      obtain ⟨fd, F⟩ := c.t.d.def_ 30 (d := h__law_mul) rfl
      exact ⟨_, fd, F, He.glo_ok X G (c.t.d.fact 30 (f := .glo "_law_mul") rfl)⟩
    D__law_add := by
      obtain ⟨fd, F⟩ := c.t.d.def_ 31 (d := h__law_add) rfl
      exact ⟨_, fd, F, He.glo_ok X G (c.t.d.fact 31 (f := .glo "_law_add") rfl)⟩
    D__law_sub := by
      obtain ⟨fd, F⟩ := c.t.d.def_ 32 (d := h__law_sub) rfl
      exact ⟨_, fd, F, He.glo_ok X G (c.t.d.fact 32 (f := .glo "_law_sub") rfl)⟩
    D__law_force := by
      obtain ⟨fd, F⟩ := c.t.d.def_ 33 (d := h__law_force) rfl
      exact ⟨_, fd, F, He.glo_ok X G (c.t.d.fact 33 (f := .glo "_law_force") rfl)⟩
    D__law_div := by
      obtain ⟨fd, F⟩ := c.t.d.def_ 34 (d := h__law_div) rfl
      exact ⟨_, fd, F, He.glo_ok X G (c.t.d.fact 34 (f := .glo "_law_div") rfl)⟩
    D__law_total := by
      obtain ⟨fd, F⟩ := c.t.d.def_ 35 (d := h__law_total) rfl
      exact ⟨_, fd, F, He.glo_ok X G (c.t.d.fact 35 (f := .glo "_law_total") rfl)⟩
    D__law_simple := by
      obtain ⟨fd, F⟩ := c.t.d.def_ 36 (d := h__law_simple) rfl
      exact ⟨_, fd, F, He.glo_ok X G (c.t.d.fact 36 (f := .glo "_law_simple") rfl)⟩
    D__law_less := by
      obtain ⟨fd, F⟩ := c.t.d.def_ 37 (d := h__law_less) rfl
      exact ⟨_, fd, F, He.glo_ok X G (c.t.d.fact 37 (f := .glo "_law_less") rfl)⟩
    D__law_turning := by
      obtain ⟨fd, F⟩ := c.t.d.def_ 38 (d := h__law_turning) rfl
      exact ⟨_, fd, F, He.glo_ok X G (c.t.d.fact 38 (f := .glo "_law_turning") rfl)⟩
    D__law_moment := by
      obtain ⟨fd, F⟩ := c.t.d.def_ 39 (d := h__law_moment) rfl
      exact ⟨_, fd, F, He.glo_ok X G (c.t.d.fact 39 (f := .glo "_law_moment") rfl)⟩
    D__law_same := by
      obtain ⟨fd, F⟩ := c.t.d.def_ 40 (d := h__law_same) rfl
      exact ⟨_, fd, F, He.glo_ok X G (c.t.d.fact 40 (f := .glo "_law_same") rfl)⟩
    D__law_breaks := by
      obtain ⟨fd, F⟩ := c.t.d.def_ 41 (d := h__law_breaks) rfl
      exact ⟨_, fd, F, He.glo_ok X G (c.t.d.fact 41 (f := .glo "_law_breaks") rfl)⟩
    D_law := by
      obtain ⟨fd, F⟩ := c.t.d.def_ 42 (d := h_law) rfl
      exact ⟨_, fd, F, He.glo_ok X G (c.t.d.fact 42 (f := .glo "law") rfl)⟩ }
theorem facts {P : Program} {w : World} {K : PySem.W.Frag} {h h' : Heap} {mg : Str → Option Value} {f : Addr} (X : K.In h) (G : h.Ns mainGlobals mg) (hfa : mg ("law" : Str) = some (.ref f)) (c : He.SaysX fa fn [] [] ex w h' K) :
    ∃ fd : FuncData, (∀ (s : Shared) (v : Value), BindsTo s fd ⟨[v], []⟩ [("script", v)]) ∧ ∀ base : Heap, K.In base → base.Ns mainGlobals mg → FnOk P w K mg base CX0 11 f fd ["script"] (spLaw K) := by
  have T := txt X G c
  obtain ⟨f', fd, F, g⟩ := T.D_law
  have e := hfa.symm.trans g
  cases e
  have b := FunD.bindsA (ps := ["script"]) F fun _ _ _ _ _ _ us hl => match us, hl with | [_], _ => rfl
  exact ⟨fd, fun s v => b s [v] rfl, fun base _ _ => fok_law F T⟩
end
end Lkk40
open PySem PySem.W PySem.Calls PyProof.Rows
theorem PySem.Challenge.cw_trusswork_k40_whole_cables_holds : PySem.Challenge.rw_trusswork_k40_whole_cables.Holds := by
  w_on; o_law
  refine HandSHeadRun.head_imp (r := OpenLaw.row PySem.Challenge.rw_trusswork_k40_whole_cables) (q := (view (OpenLaw.row PySem.Challenge.rw_trusswork_k40_whole_cables).prog [0, 51])) (H := Lkk40.hk) (ob := Lkk40.ob) (M := 20000) (loose := Lkk40.loose) (d := HandSHeadRun.topDef (OpenLaw.row PySem.Challenge.rw_trusswork_k40_whole_cables).prog 51) (kwd := []) Lkk40.ob_eq
    Lkk40.run (by kernel_rfl) (by kernel_rfl) (by kernel_rfl) (by rfl) (by first | assumption | decide +kernel) (by decide +kernel) ⟨rfl, rfl, rfl, rfl, rfl, by decide +kernel⟩ ?hw ?hc
  case hw => w_witness2
  case hc =>
    refine L2.walk_ofE (l := PySem.Challenge.rw_trusswork_k40_whole_cables) (n := 63) (k := 11) (x := "script") (CX := L2.CX0) rfl (by decide) (by kernel_rfl) ⟨rfl, by decide, by decide⟩ ?F (fun _ _ _ _ z => z)
    intro w mg fa h Y G hmg0
    obtain ⟨K, KX, c⟩ := Y
    have hmg : mg ("law" : PySem.Str) = some (.ref fa) := by
      have e : (HandSHeadRun.topDef (OpenLaw.row PySem.Challenge.rw_trusswork_k40_whole_cables).prog 51).name = ("law" : PySem.Str) := by kernel_rfl
      rw [← e]
      exact hmg0
    obtain ⟨fd, hb, hF⟩ := Lkk40.facts (P := (PySem.Challenge.rw_trusswork_k40_whole_cables).prog) (w := w) KX G hmg c
    exact ⟨K, fd, DL.spLaw K, KX, hb, fun H a ns hl _ hS => ⟨a, ns, rfl, hS, fun _ => rfl⟩, hF⟩
