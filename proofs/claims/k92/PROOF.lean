import PyProof.Rows.All
import HandS.Codes
import HandS.Defaults
import HandS.EndBits
import HandS.Exc
import HandS.ExcOwn
import HandS.ForMost
import HandS.IsInst
import HandS.Iter
import HandS.More
import HandS.StrMore
import HandS.TryOnly
import HandS.TupAny
import HandS.TupMul
import HandS.Wide
import HandS.Words
import HandS.WordsExc
import OpenK.AllK
import PySem.Challenge.RW_treestell_k92_terms_written_and_read
import Wide.All
import Wide.FinOn
set_option Elab.async false
set_option linter.all false
set_option maxRecDepth 100000
namespace Q
open PySem

/-- plain values: tuples by value, lists (and other things that change) by their index in a store -/
inductive D where
  | non
  | bl (b : Bool)
  | int (i : Int)
  | str (s : List Nat)
  | tup (ds : List D)
  | ref (n : Nat)
  | glb (n : Nat)

mutual
def D.beq : D → D → Bool
  | .non, .non => true
  | .bl a, .bl b => a == b
  | .int a, .int b => a == b
  | .str a, .str b => a == b
  | .tup a, .tup b => D.beqs a b
  | .ref a, .ref b => a == b
  | .glb a, .glb b => a == b
  | _, _ => false
def D.beqs : List D → List D → Bool
  | [], [] => true
  | a :: as, b :: bs => D.beq a b && D.beqs as bs
  | _, _ => false
end
mutual
theorem D.beq_eq : ∀ a b : D, D.beq a b = true → a = b
  | .non, .non, _ => rfl
  | .bl a, .bl b, h => by simp [D.beq] at h; rw [h]
  | .int a, .int b, h => by simp [D.beq] at h; rw [h]
  | .str a, .str b, h => by simp [D.beq] at h; rw [h]
  | .tup a, .tup b, h => by simp [D.beq] at h; rw [D.beqs_eq a b h]
  | .ref a, .ref b, h => by simp [D.beq] at h; rw [h]
  | .glb a, .glb b, h => by simp [D.beq] at h; rw [h]
  | .non, .bl _, h | .non, .int _, h | .non, .str _, h | .non, .tup _, h | .non, .ref _, h | .non, .glb _, h => by simp [D.beq] at h
  | .bl _, .non, h | .bl _, .int _, h | .bl _, .str _, h | .bl _, .tup _, h | .bl _, .ref _, h | .bl _, .glb _, h => by simp [D.beq] at h
  | .int _, .non, h | .int _, .bl _, h | .int _, .str _, h | .int _, .tup _, h | .int _, .ref _, h | .int _, .glb _, h => by simp [D.beq] at h
  | .str _, .non, h | .str _, .bl _, h | .str _, .int _, h | .str _, .tup _, h | .str _, .ref _, h | .str _, .glb _, h => by simp [D.beq] at h
  | .tup _, .non, h | .tup _, .bl _, h | .tup _, .int _, h | .tup _, .str _, h | .tup _, .ref _, h | .tup _, .glb _, h => by simp [D.beq] at h
  | .ref _, .non, h | .ref _, .bl _, h | .ref _, .int _, h | .ref _, .str _, h | .ref _, .tup _, h | .ref _, .glb _, h => by simp [D.beq] at h
  | .glb _, .non, h | .glb _, .bl _, h | .glb _, .int _, h | .glb _, .str _, h | .glb _, .tup _, h | .glb _, .ref _, h => by simp [D.beq] at h
theorem D.beqs_eq : ∀ a b : List D, D.beqs a b = true → a = b
  | [], [], _ => rfl
  | a :: as, b :: bs, h => by
    simp [D.beqs] at h
    rw [D.beq_eq a b h.1, D.beqs_eq as bs h.2]
  | [], _ :: _, h => by simp [D.beqs] at h
  | _ :: _, [], h => by simp [D.beqs] at h
end
mutual
theorem D.beq_refl : ∀ a : D, D.beq a a = true
  | .non => rfl
  | .bl a => by simp [D.beq]
  | .int a => by simp [D.beq]
  | .str a => by simp [D.beq]
  | .tup a => by simp [D.beq, D.beqs_refl a]
  | .ref a => by simp [D.beq]
  | .glb a => by simp [D.beq]
theorem D.beqs_refl : ∀ a : List D, D.beqs a a = true
  | [] => rfl
  | a :: as => by simp [D.beqs, D.beq_refl a, D.beqs_refl as]
end
instance : DecidableEq D := fun a b => if h : D.beq a b = true then isTrue (D.beq_eq a b h) else isFalse fun e => h (e ▸ D.beq_refl a)

/-- what stands in the store: a list; a list that nobody may change -/
inductive Ob where
  | lst (ds : List D)
  | rol (ds : List D)
  deriving DecidableEq

abbrev Store := List Ob
inductive Res (α : Type) where
  | ok (a : α) (S : Store)
  | exc (c : Nat) (S : Store)
  | err
abbrev Env := List (Option D)
inductive RS where
  | nxt (ρ : Env) (S : Store)
  | ret (d : D) (S : Store)
  | brk (ρ : Env) (S : Store)
  | cnt (ρ : Env) (S : Store)
  | exc (c : Nat) (ρ : Env) (S : Store)
  | err

def Res.bind {α β : Type} (r : Res α) (k : α → Store → Res β) : Res β :=
  match r with
  | .ok a S => k a S
  | .exc c S => .exc c S
  | .err => .err
@[simp] theorem bind_ok {α β : Type} (a : α) (S : Store) (k : α → Store → Res β) : (Res.ok a S).bind k = k a S := rfl
@[simp] theorem bind_exc {α β : Type} (c : Nat) (S : Store) (k : α → Store → Res β) : (Res.exc c S : Res α).bind k = .exc c S := rfl
@[simp] theorem bind_err {α β : Type} (k : α → Store → Res β) : (Res.err : Res α).bind k = .err := rfl
/-- a value, then what follows in a statement -/
def Res.thenS {α : Type} (r : Res α) (ρ : Env) (k : α → Store → RS) : RS :=
  match r with
  | .ok a S => k a S
  | .exc c S => .exc c ρ S
  | .err => .err
@[simp] theorem thenS_ok {α : Type} (a : α) (S : Store) (ρ : Env) (k : α → Store → RS) : (Res.ok a S).thenS ρ k = k a S := rfl
@[simp] theorem thenS_exc {α : Type} (c : Nat) (S : Store) (ρ : Env) (k : α → Store → RS) : (Res.exc c S : Res α).thenS ρ k = .exc c ρ S := rfl
@[simp] theorem thenS_err {α : Type} (ρ : Env) (k : α → Store → RS) : (Res.err : Res α).thenS ρ k = .err := rfl
def RS.seq (r : RS) (k : Env → Store → RS) : RS :=
  match r with
  | .nxt ρ S => k ρ S
  | r => r
@[simp] theorem seq_nxt (ρ : Env) (S : Store) (k : Env → Store → RS) : (RS.nxt ρ S).seq k = k ρ S := rfl
@[simp] theorem seq_ret (d : D) (S : Store) (k : Env → Store → RS) : (RS.ret d S).seq k = .ret d S := rfl
@[simp] theorem seq_brk (ρ : Env) (S : Store) (k : Env → Store → RS) : (RS.brk ρ S).seq k = .brk ρ S := rfl
@[simp] theorem seq_cnt (ρ : Env) (S : Store) (k : Env → Store → RS) : (RS.cnt ρ S).seq k = .cnt ρ S := rfl
@[simp] theorem seq_exc (c : Nat) (ρ : Env) (S : Store) (k : Env → Store → RS) : (RS.exc c ρ S).seq k = .exc c ρ S := rfl
@[simp] theorem seq_err (k : Env → Store → RS) : RS.err.seq k = .err := rfl

/-- the defs, by their numbers -/
abbrev CF := Nat → List D → Store → Res D
abbrev SE := CF → Env → Store → Res D
abbrev ST := CF → Env → Store → Res Bool
abbrev SA := CF → Env → Store → Res (List D)
abbrev SP := CF → Env → Store → Res (Option Int)
abbrev SS := CF → Env → Store → RS

/-- the greatest length of a text, a list -/
def SL : Nat := 2 ^ 24

/-! ### expressions -/
def mVar (i : Nat) : SE := fun _ ρ S => match ρ[i]? with
  | some (some d) => .ok d S
  | _ => .err
def mC (d : D) : SE := fun _ _ S => .ok d S
def mOp (f : D → D → Store → Res D) (a b : SE) : SE := fun cf ρ S => (a cf ρ S).bind fun x S1 => (b cf ρ S1).bind fun y S2 => f x y S2
def mUn (f : D → Store → Res D) (a : SE) : SE := fun cf ρ S => (a cf ρ S).bind fun x S1 => f x S1
def mNil : SA := fun _ _ S => .ok [] S
def mCons (a : SE) (r : SA) : SA := fun cf ρ S => (a cf ρ S).bind fun x S1 => (r cf ρ S1).bind fun xs S2 => .ok (x :: xs) S2
def mApp (f : List D → Store → Res D) (a : SA) : SE := fun cf ρ S => (a cf ρ S).bind fun xs S1 => f xs S1
def mCall (n : Nat) (a : SA) : SE := fun cf ρ S => (a cf ρ S).bind fun xs S1 => cf n xs S1
def mIf (t : ST) (a b : SE) : SE := fun cf ρ S => (t cf ρ S).bind fun k S1 => if k then a cf ρ S1 else b cf ρ S1
def mAnd (a b : SE) : SE := fun cf ρ S => (a cf ρ S).bind fun x S1 => match x with
  | .bl true => b cf ρ S1
  | .bl false => .ok (.bl false) S1
  | _ => .err
def mOr (a b : SE) : SE := fun cf ρ S => (a cf ρ S).bind fun x S1 => match x with
  | .bl false => b cf ρ S1
  | .bl true => .ok (.bl true) S1
  | _ => .err
def mNot (a : SE) : SE := fun cf ρ S => (a cf ρ S).bind fun x S1 => match x with
  | .bl k => .ok (.bl (!k)) S1
  | _ => .err
/-- a op b op' c, b asked once -/
def mChain (f g : D → D → Store → Res D) (a b c : SE) : SE := fun cf ρ S => (a cf ρ S).bind fun x S1 => (b cf ρ S1).bind fun y S2 => (f x y S2).bind fun z S3 => match z with
  | .bl true => (c cf ρ S3).bind fun w S4 => g y w S4
  | .bl false => .ok (.bl false) S3
  | _ => .err
def newTup (xs : List D) (S : Store) : Res D := if xs.length ≤ SL then .ok (.tup xs) S else .err
def mTup (a : SA) : SE := mApp newTup a
def newLst (xs : List D) (S : Store) : Res D := if xs.length ≤ SL then .ok (.ref S.length) (S ++ [.lst xs]) else .err
def mLst (a : SA) : SE := mApp newLst a
/-- a part of a slice -/
def mNoPart : SP := fun _ _ S => .ok none S
def mPart (a : SE) : SP := fun cf ρ S => (a cf ρ S).bind fun x S1 => match x with
  | .int i => .ok (some i) S1
  | _ => .err
def mSlice (f : D → Option Int → Option Int → Store → Res D) (a : SE) (l u : SP) : SE := fun cf ρ S => (a cf ρ S).bind fun x S1 => (l cf ρ S1).bind fun lo S2 => (u cf ρ S2).bind fun hi S3 => f x lo hi S3
/-- f(k = e, ..): the parameters' places among the keywords -/
def mCallK (n : Nat) (pm : List Nat) (a : SA) : SE := fun cf ρ S => (a cf ρ S).bind fun xs S1 => cf n (pm.map fun i => xs.getD i .non) S1
def typeD (S : Store) : D → Option String
  | .non => some "NoneType"
  | .bl _ => some "bool"
  | .int _ => some "int"
  | .str _ => some "str"
  | .tup _ => some "tuple"
  | .ref n => match S[n]? with
    | some (.lst _) => some "list"
    | some (.rol _) => some "list"
    | none => none
  | .glb 0 => some "dict"
  | .glb _ => none
/-- o.m(e, ..) of a built-in's method -/
def mMeth (T : String) (f : D → List D → Store → Res D) (o : SE) (a : SA) : SE := fun cf ρ S => (o cf ρ S).bind fun x S1 => if typeD S1 x = some T then (a cf ρ S1).bind fun xs S2 => f x xs S2 else .err

/-! ### tests -/
def tVal (a : SE) : ST := fun cf ρ S => (a cf ρ S).bind fun x S1 => match x with
  | .bl k => .ok k S1
  | _ => .err
def tAnd (a b : ST) : ST := fun cf ρ S => (a cf ρ S).bind fun k S1 => if k then b cf ρ S1 else .ok false S1
def tOr (a b : ST) : ST := fun cf ρ S => (a cf ρ S).bind fun k S1 => if k then .ok true S1 else b cf ρ S1
def tNot (a : ST) : ST := fun cf ρ S => (a cf ρ S).bind fun k S1 => .ok (!k) S1

/-! ### statements -/
def sSkip : SS := fun _ ρ S => .nxt ρ S
def sSeq (a b : SS) : SS := fun cf ρ S => (a cf ρ S).seq fun ρ1 S1 => b cf ρ1 S1
def sExpr (a : SE) : SS := fun cf ρ S => (a cf ρ S).thenS ρ fun _ S1 => .nxt ρ S1
def sRet (a : SE) : SS := fun cf ρ S => (a cf ρ S).thenS ρ fun x S1 => .ret x S1
def sIf (t : ST) (a b : SS) : SS := fun cf ρ S => (t cf ρ S).thenS ρ fun k S1 => if k then a cf ρ S1 else b cf ρ S1
def sBrk : SS := fun _ ρ S => .brk ρ S
def sCnt : SS := fun _ ρ S => .cnt ρ S
/-- a raise of an own error of class c with one argument -/
def sRaise (c : Nat) (a : SE) : SS := fun cf ρ S => (a cf ρ S).thenS ρ fun _ S1 => .exc c ρ S1
/-- targets: what a value does to the slots -/
abbrev TGT := D → Env → Store → Option Env
def gNm (i : Nat) : TGT := fun d ρ _ => some (ρ.set i (some d))
def gTs : List Nat → List D → Env → Option Env
  | [], [], ρ => some ρ
  | i :: is, d :: ds, ρ => gTs is ds (ρ.set i (some d))
  | _, _, _ => none
def gTup (is : List Nat) : TGT := fun d ρ S => match d with
  | .tup ds => gTs is ds ρ
  | .ref n => match S[n]? with
    | some (.lst ds) => gTs is ds ρ
    | some (.rol ds) => gTs is ds ρ
    | none => none
  | _ => none
def sAsg (a : SE) (g : TGT) : SS := fun cf ρ S => (a cf ρ S).thenS ρ fun x S1 => match g x ρ S1 with
  | some ρ1 => .nxt ρ1 S1
  | none => .err
/-- a, b, .. = x, y, .. with plain names -/
def sPar (a : SA) (is : List Nat) : SS := fun cf ρ S => (a cf ρ S).thenS ρ fun xs S1 => match gTs is xs ρ with
  | some ρ1 => .nxt ρ1 S1
  | none => .err
/-- x op= e -/
def sAug (i : Nat) (f : D → D → Store → Res D) (a : SE) : SS := fun cf ρ S => match ρ[i]? with
  | some (some x) => (a cf ρ S).thenS ρ fun y S1 => (f x y S1).thenS ρ fun z S2 => .nxt (ρ.set i (some z)) S2
  | _ => .err
/-- o[i] = e: e first -/
def sPut (f : D → D → D → Store → Res Unit) (o i e : SE) : SS := fun cf ρ S => (e cf ρ S).thenS ρ fun v S1 => (o cf ρ S1).thenS ρ fun x S2 => (i cf ρ S2).thenS ρ fun y S3 => (f x y v S3).thenS ρ fun _ S4 => .nxt ρ S4

/-! ### loops -/
/-- what a for walks: the items one by one, or a list as it stands -/
inductive It where
  | vals (ds : List D)
  | list (n : Nat) (ds : List D)
/-- is the list still what it was? -/
def It.holds : It → Store → Bool
  | .vals _, _ => true
  | .list n ds, S => decide (S[n]? = some (.lst ds) ∨ S[n]? = some (.rol ds))
def It.items : It → List D
  | .vals ds => ds
  | .list _ ds => ds
abbrev SI := CF → Env → Store → Res It
def forGo (h : Store → Bool) (g : TGT) (body : Env → Store → RS) : List D → Env → Store → RS
  | [], ρ, S => if h S then .nxt ρ S else .err
  | d :: ds, ρ, S => if h S then
      match g d ρ S with
      | some ρ1 => match body ρ1 S with
        | .nxt ρ2 S2 => forGo h g body ds ρ2 S2
        | .cnt ρ2 S2 => forGo h g body ds ρ2 S2
        | .brk ρ2 S2 => .nxt ρ2 S2
        | r => r
      | none => .err
    else .err
def sFor (it : SI) (g : TGT) (body : SS) : SS := fun cf ρ S => (it cf ρ S).thenS ρ fun J S1 => forGo J.holds g (body cf) J.items ρ S1
def whileGo (t : Env → Store → Res Bool) (body : Env → Store → RS) : Nat → Env → Store → RS
  | 0, _, _ => .err
  | n + 1, ρ, S => (t ρ S).thenS ρ fun k S1 => if k then
      match body ρ S1 with
      | .nxt ρ2 S2 => whileGo t body n ρ2 S2
      | .cnt ρ2 S2 => whileGo t body n ρ2 S2
      | .brk ρ2 S2 => .nxt ρ2 S2
      | r => r
    else .nxt ρ S1
/-- how many turns a while may take -/
def WT : Nat := 100000
def sWhile (t : ST) (body : SS) : SS := fun cf ρ S => whileGo (t cf) (body cf) WT ρ S

/-- the slots of a comprehension's own names forgotten -/
def wipeD (ρ : Env) : List Nat → Env
  | [] => ρ
  | v :: vs => (wipeD ρ vs).set v none
/-- [e for target in it if t]: the new list stands at n; the slots of its own names are vs -/
def lcGo (h : Store → Bool) (g : TGT) (t : Env → Store → Res Bool) (e : Env → Store → Res D) (n : Nat) (ρ : Env) : List D → Store → Res Unit
  | [], S => if h S then .ok () S else .err
  | d :: ds, S => if h S then
      match g d ρ S with
      | some ρ1 => match t ρ1 S with
        | .ok true S2 => match e ρ1 S2 with
          | .ok x S3 => match S3[n]? with
            | some (.lst acc) => if acc.length < SL then lcGo h g t e n ρ ds (S3.set n (.lst (acc ++ [x]))) else .err
            | _ => .err
          | _ => .err
        | .ok false S2 => lcGo h g t e n ρ ds S2
        | _ => .err
      | none => .err
    else .err
def tYes : ST := fun _ _ S => .ok true S
def mLc (it : SI) (g : TGT) (t : ST) (e : SE) (vs : List Nat) : SE := fun cf ρ S => (it cf ρ S).bind fun J S1 =>
  (lcGo J.holds g (t cf) (e cf) S1.length (wipeD ρ vs) J.items (S1 ++ [.lst []])).bind fun _ S2 => .ok (.ref S1.length) S2

/-! ### a call's end: what is no more to be reached is forgotten -/
mutual
def closed (n : Nat) : D → Bool
  | .ref k => decide (k < n)
  | .tup ds => closeds n ds
  | _ => true
def closeds (n : Nat) : List D → Bool
  | [] => true
  | d :: ds => closed n d && closeds n ds
end
def closedOb (n : Nat) : Ob → Bool
  | .lst ds => closeds n ds
  | .rol ds => closeds n ds
/-- the store ahead of the call, the one behind it -/
def oldOk (n : Nat) : Store → Store → Bool
  | [], _ => true
  | a :: as, b :: bs => (decide (a = b) || closedOb n b) && oldOk n as bs
  | _ :: _, [] => false
def tidy (S0 : Store) (d : D) (S : Store) : Res D :=
  if oldOk S0.length S0 S then
    if closed S0.length d then .ok d (S.take S0.length) else
      match d with
      | .ref k => match S[k]? with
        | some o => if closedOb S0.length o then .ok (.ref S0.length) (S.take S0.length ++ [o]) else .ok d S
        | none => .ok d S
      | _ => .ok d S
  else .ok d S
def tidyX (S0 : Store) (c : Nat) (S : Store) : Res D := if oldOk S0.length S0 S then .exc c (S.take S0.length) else .exc c S

/-- a def: how many parameters, how many slots, the body -/
structure Fn where
  pars : Nat
  slots : Nat
  body : SS
def runFn (F : Fn) (cf : CF) (xs : List D) (S : Store) : Res D :=
  if xs.length = F.pars then
    match F.body cf (xs.map some ++ List.replicate (F.slots - xs.length) none) S with
    | .nxt _ S1 => tidy S .non S1
    | .ret d S1 => tidy S d S1
    | .exc c _ S1 => tidyX S c S1
    | _ => .err
  else .err
def callN (tab : Nat → Option Fn) : Nat → CF
  | 0, _, _, _ => .err
  | k + 1, n, xs, S => match tab n with
    | some F => runFn F (callN tab k) xs S
    | none => .err
end Q
namespace Q
open PySem L2

abbrev mkS (s : List Nat) : Str := ⟨s.toArray⟩

section
variable (K : PySem.W.Frag) (G : Nat → Option Addr)
mutual
/-- the value v stands for d; μ: where the store's things lie; G: where the top's own things lie -/
def IsV (H : Hp) (μ : List Addr) : D → V → Prop
  | .non, v => v = .non
  | .bl b, v => v = .bl b
  | .int i, v => v = .int i
  | .str s, v => v = .str (mkS s)
  | .tup ds, v => ∃ a vs, v = .ref a ∧ SqT K H a vs ∧ IsVs H μ ds vs
  | .ref n, v => ∃ a, v = .ref a ∧ μ[n]? = some a
  | .glb n, v => ∃ a, v = .ref a ∧ G n = some a
def IsVs (H : Hp) (μ : List Addr) : List D → List V → Prop
  | [], vs => vs = []
  | d :: ds, vs => ∃ v r, vs = v :: r ∧ IsV H μ d v ∧ IsVs H μ ds r
end
end

section
variable {K : PySem.W.Frag} {G : Nat → Option Addr} {H H' H'' : Hp} {μ μ' μ'' : List Addr}

theorem IsVs.length : ∀ {ds : List D} {vs : List V}, IsVs K G H μ ds vs → vs.length = ds.length
  | [], vs, h => by
    have h : vs = [] := h
    subst h; rfl
  | d :: ds, vs, h => by
    obtain ⟨v, r, rfl, _, h⟩ := h
    simp [IsVs.length h]
theorem IsVs.get : ∀ {ds : List D} {vs : List V} {i : Nat} {d : D}, IsVs K G H μ ds vs → ds[i]? = some d → ∃ v, vs[i]? = some v ∧ IsV K G H μ d v
  | [], _, _, _, _, e => by simp at e
  | d :: ds, vs, 0, d', h, e => by
    obtain ⟨v, r, rfl, h1, _⟩ := h
    simp at e; subst e
    exact ⟨v, rfl, h1⟩
  | d :: ds, vs, i + 1, d', h, e => by
    obtain ⟨v, r, rfl, _, h⟩ := h
    simp only [List.getElem?_cons_succ] at e ⊢
    exact IsVs.get h e
theorem IsVs.append : ∀ {ds es : List D} {vs ws : List V}, IsVs K G H μ ds vs → IsVs K G H μ es ws → IsVs K G H μ (ds ++ es) (vs ++ ws)
  | [], _, vs, _, h, h' => by
    have h : vs = [] := h
    subst h; exact h'
  | d :: ds, _, vs, _, h, h' => by
    obtain ⟨v, r, rfl, h1, h⟩ := h
    exact ⟨v, r ++ _, rfl, h1, IsVs.append h h'⟩
theorem IsVs.take : ∀ {ds : List D} {vs : List V} (n : Nat), IsVs K G H μ ds vs → IsVs K G H μ (ds.take n) (vs.take n)
  | _, _, 0, _ => by simp [IsVs]
  | [], vs, n + 1, h => by
    have h : vs = [] := h
    subst h; simp [IsVs]
  | d :: ds, vs, n + 1, h => by
    obtain ⟨v, r, rfl, h1, h⟩ := h
    exact ⟨v, r.take n, rfl, h1, IsVs.take n h⟩
theorem IsVs.drop : ∀ {ds : List D} {vs : List V} (n : Nat), IsVs K G H μ ds vs → IsVs K G H μ (ds.drop n) (vs.drop n)
  | _, _, 0, h => h
  | [], vs, n + 1, h => by
    have h : vs = [] := h
    subst h; simp [IsVs]
  | d :: ds, vs, n + 1, h => by
    obtain ⟨v, r, rfl, h1, h⟩ := h
    exact IsVs.drop n h
theorem IsVs.set : ∀ {ds : List D} {vs : List V} {d : D} {v : V} (i : Nat), IsVs K G H μ ds vs → IsV K G H μ d v → IsVs K G H μ (ds.set i d) (vs.set i v)
  | [], vs, _, _, _, h, _ => by
    have h : vs = [] := h
    subst h; exact rfl
  | _ :: ds, vs, d, v, 0, h, h' => by
    obtain ⟨w, r, rfl, _, h⟩ := h
    exact ⟨v, r, rfl, h', h⟩
  | _ :: ds, vs, d, v, i + 1, h, h' => by
    obtain ⟨w, r, rfl, h1, h⟩ := h
    exact ⟨w, r.set i v, rfl, h1, IsVs.set i h h'⟩

/-- all that stood for something stands for it -/
def Ext (K : PySem.W.Frag) (G : Nat → Option Addr) (H : Hp) (μ : List Addr) (H' : Hp) (μ' : List Addr) : Prop := ∀ d v, IsV K G H μ d v → IsV K G H' μ' d v
theorem Ext.refl : Ext K G H μ H μ := fun _ _ h => h
theorem Ext.trans (a : Ext K G H μ H' μ') (b : Ext K G H' μ' H'' μ'') : Ext K G H μ H'' μ'' := fun d v h => b d v (a d v h)
theorem Ext.all (e : Ext K G H μ H' μ') : ∀ {ds : List D} {vs : List V}, IsVs K G H μ ds vs → IsVs K G H' μ' ds vs
  | [], _, h => h
  | d :: ds, vs, h => by
    obtain ⟨v, r, rfl, h1, h⟩ := h
    exact ⟨v, r, rfl, e d v h1, Ext.all e h⟩
theorem Ext.at (e : Ext K G H μ H' μ') {n : Nat} {a : Addr} (h : μ[n]? = some a) : μ'[n]? = some a := by
  obtain ⟨b, e1, e2⟩ := e (.ref n) (.ref a) ⟨a, rfl, h⟩
  cases e1
  exact e2

/-- tuples stay, places stay -/
theorem ext_of (ht : ∀ a xs, Rd H a (.tup xs) → Rd H' a (.tup xs)) (hm : ∀ (n : Nat) (a : Addr), μ[n]? = some a → μ'[n]? = some a) : Ext K G H μ H' μ' := by
  have hs : ∀ a xs, SqT K H a xs → SqT K H' a xs := fun a xs h => h.elim (fun h => .inl (ht a xs h)) .inr
  have one : ∀ (d : D) (v : V), IsV K G H μ d v → IsV K G H' μ' d v := by
    intro d
    refine D.rec (motive_1 := fun d => ∀ v, IsV K G H μ d v → IsV K G H' μ' d v) (motive_2 := fun ds => ∀ vs, IsVs K G H μ ds vs → IsVs K G H' μ' ds vs) ?_ ?_ ?_ ?_ ?_ ?_ ?_ ?_ ?_ d
    · intro v h; exact h
    · intro b v h; exact h
    · intro i v h; exact h
    · intro s v h; exact h
    · intro ds ih v h
      obtain ⟨a, vs, e, h1, h2⟩ := h
      exact ⟨a, vs, e, hs a vs h1, ih vs h2⟩
    · intro n v h
      obtain ⟨a, e, h1⟩ := h
      exact ⟨a, e, hm n a h1⟩
    · intro n v h; exact h
    · intro vs h; exact h
    · intro d ds ih1 ih2 vs h
      obtain ⟨v, r, e, h1, h2⟩ := h
      exact ⟨v, r, e, ih1 v h1, ih2 r h2⟩
  exact one

/-- no tuple stands there -/
def NoT (H : Hp) (b : Addr) : Prop := ∀ xs, ¬ Rd H b (.tup xs)
theorem NoT.none {b : Addr} (h : H b = none) : NoT H b := fun xs r => by
  rcases r with r | ⟨o, r⟩ <;> (rw [h] at r; cases r)
theorem NoT.lst {b : Addr} {ys : List V} (h : H b = some (.lst ys)) : NoT H b := fun xs r => by
  rcases r with r | ⟨o, r⟩ <;> (rw [h] at r; cases r)
theorem rd_upd {b : Addr} {o : HO} {a : Addr} {u : HO} (h : a ≠ b) (r : Rd H a u) : Rd (upd H b o) a u := by
  rcases r with r | ⟨f, r⟩
  · exact .inl ((upd_ne h).trans r)
  · exact .inr ⟨f, (upd_ne h).trans r⟩
theorem ext_upd {b : Addr} {o : HO} (h : NoT H b) (hm : ∀ (n : Nat) (a : Addr), μ[n]? = some a → μ'[n]? = some a) : Ext K G H μ (upd H b o) μ' :=
  ext_of (fun a xs r => rd_upd (fun e => h xs (e ▸ r)) r) hm

/-- a list of the top's own -/
def KL (K : PySem.W.Frag) (a : Addr) (xs : List V) : Prop :=
  ∃ (o : Obj) (its : Array Value) (n : Nat), K.lookup a = some o ∧ o.cls = .type "list" ∧ o.dict = none ∧ o.data = .seq its n ∧ its.size ≤ sizeLine ∧ Vals xs its.toList
def ObR (K : PySem.W.Frag) (G : Nat → Option Addr) (H : Hp) (μ : List Addr) : Ob → Addr → Prop
  | .lst ds, a => ∃ vs, H a = some (.lst vs) ∧ IsVs K G H μ ds vs
  | .rol ds, a => ∃ vs, ((∃ o, H a = some (.frz o (.lst vs))) ∨ KL K a vs) ∧ IsVs K G H μ ds vs
structure SR (K : PySem.W.Frag) (G : Nat → Option Addr) (H : Hp) (μ : List Addr) (S : Store) : Prop where
  len : μ.length = S.length
  ob : ∀ (i : Nat) (o : Ob), S[i]? = some o → ∃ a, μ[i]? = some a ∧ ObR K G H μ o a
  inj : ∀ (i j : Nat) (a : Addr) (ds es : List D), S[i]? = some (.lst ds) → S[j]? = some (.lst es) → μ[i]? = some a → μ[j]? = some a → i = j
def ER1 (K : PySem.W.Frag) (G : Nat → Option Addr) (H : Hp) (μ : List Addr) : Option D → Option V → Prop
  | none, _ => True
  | some d, some v => IsV K G H μ d v
  | some _, none => False
/-- the slots -/
def ER (K : PySem.W.Frag) (G : Nat → Option Addr) (H : Hp) (μ : List Addr) (ρ : Env) (σ : St) : Prop :=
  σ.length = ρ.length ∧ ∀ (i : Nat) (d : D), ρ[i]? = some (some d) → ∃ v, σ[i]? = some (some v) ∧ IsV K G H μ d v
variable {ρ : Env} {σ : St} {S : Store}
theorem ER.ext (e : Ext K G H μ H' μ') (h : ER K G H μ ρ σ) : ER K G H' μ' ρ σ := ⟨h.1, fun i d q => by
  obtain ⟨v, q1, q2⟩ := h.2 i d q
  exact ⟨v, q1, e d v q2⟩⟩
theorem ER.set {d : D} {v : V} (i : Nat) (h : ER K G H μ ρ σ) (hv : IsV K G H μ d v) : ER K G H μ (ρ.set i (some d)) (σ.set i (some v)) := by
  refine ⟨by simp [h.1], fun j e q => ?_⟩
  by_cases hj : i = j
  · subst hj
    by_cases hl : i < ρ.length
    · rw [List.getElem?_set_self hl] at q
      cases q
      exact ⟨v, by rw [List.getElem?_set_self (by rw [h.1]; exact hl)], hv⟩
    · rw [List.getElem?_eq_none (by simpa using hl)] at q
      cases q
  · rw [List.getElem?_set_ne hj] at q ⊢
    exact h.2 j e q
theorem ER.wipe (h : ER K G H μ ρ σ) : ∀ vs : List Nat, ER K G H μ (wipeD ρ vs) (wipe σ vs)
  | [] => h
  | v :: vs => by
    have ih := ER.wipe h vs
    unfold wipeD L2.wipe
    refine ⟨by simp [ih.1], fun j e q => ?_⟩
    by_cases hj : v = j
    · subst hj
      by_cases hl : v < (wipeD ρ vs).length
      · rw [List.getElem?_set_self hl] at q
        cases q
      · rw [List.getElem?_eq_none (by simpa using hl)] at q
        cases q
    · rw [List.getElem?_set_ne hj] at q ⊢
      exact ih.2 j e q

theorem ObR.sql {ds : List D} {a : Addr} {o : Ob} (h : ObR K G H μ o a) (e : o = .lst ds ∨ o = .rol ds) : ∃ vs, SqL K H a vs ∧ IsVs K G H μ ds vs := by
  rcases e with rfl | rfl
  · obtain ⟨vs, r1, r2⟩ := h
    exact ⟨vs, .inl (.inl r1), r2⟩
  · obtain ⟨vs, r1, r2⟩ := h
    rcases r1 with ⟨o, r1⟩ | r1
    · exact ⟨vs, .inl (.inr ⟨o, r1⟩), r2⟩
    · exact ⟨vs, .inr r1, r2⟩
/-- behind a change at b -/
theorem ObR.upd {b a : Addr} {o : HO} {ob : Ob} (h : ObR K G H μ ob a) (ex : Ext K G H μ (upd H b o) μ') (hb : (∀ f vs, H b ≠ some (.frz f (.lst vs)))) (hab : (∃ ds, ob = .lst ds) → a ≠ b) : ObR K G (upd H b o) μ' ob a := by
  cases ob with
  | lst ds =>
    obtain ⟨vs, r1, r2⟩ := h
    exact ⟨vs, (upd_ne (hab ⟨_, rfl⟩)).trans r1, ex.all r2⟩
  | rol ds =>
    obtain ⟨vs, r1, r2⟩ := h
    refine ⟨vs, ?_, ex.all r2⟩
    rcases r1 with ⟨f, r1⟩ | r1
    · exact .inl ⟨f, (upd_ne (show a ≠ b from fun e => hb f vs (e ▸ r1))).trans r1⟩
    · exact .inr r1
/-- a new thing that is no list of ours -/
theorem SR.upd_new {b : Addr} {o : HO} (h : SR K G H μ S) (hb : H b = none) : SR K G (upd H b o) μ S := by
  have ex : Ext K G H μ (upd H b o) μ := ext_upd (NoT.none hb) fun _ _ q => q
  refine ⟨h.len, fun i ob q => ?_, h.inj⟩
  obtain ⟨a, q1, q2⟩ := h.ob i ob q
  refine ⟨a, q1, q2.upd ex (fun f vs z => by rw [hb] at z; cases z) fun ⟨ds, e⟩ => ?_⟩
  subst e
  obtain ⟨vs, r1, _⟩ := q2
  exact ne_of_none r1 hb
theorem ext_new {b : Addr} {o : HO} (hb : H b = none) : Ext K G H μ (upd H b o) μ := ext_upd (NoT.none hb) fun _ _ q => q
theorem ext_snoc {b : Addr} {o : HO} (hb : H b = none) : Ext K G H μ (upd H b o) (μ ++ [b]) := ext_upd (NoT.none hb) fun n a q => by
  rw [List.getElem?_append_left (List.getElem?_eq_some_iff.mp q).1]; exact q
/-- a new list -/
theorem SR.snoc {b : Addr} {vs : List V} {ds : List D} (h : SR K G H μ S) (hb : H b = none) (hv : IsVs K G H μ ds vs) : SR K G (upd H b (.lst vs)) (μ ++ [b]) (S ++ [.lst ds]) := by
  have ex : Ext K G H μ (upd H b (.lst vs)) (μ ++ [b]) := ext_snoc hb
  have old : ∀ {i : Nat} {ob : Ob}, S[i]? = some ob → ∃ a, μ[i]? = some a ∧ ObR K G (upd H b (.lst vs)) (μ ++ [b]) ob a ∧ ((∃ ds, ob = .lst ds) → a ≠ b) := fun {i ob} q => by
    obtain ⟨a, q1, q2⟩ := h.ob i ob q
    have ne : (∃ ds, ob = .lst ds) → a ≠ b := fun ⟨ds, e⟩ => by
      subst e
      obtain ⟨vs, r1, _⟩ := q2
      exact ne_of_none r1 hb
    exact ⟨a, q1, q2.upd ex (fun f vs z => by rw [hb] at z; cases z) ne, ne⟩
  have cut : ∀ {i : Nat} {ob : Ob}, (S ++ [Ob.lst ds])[i]? = some ob → S[i]? = some ob ∨ (i = S.length ∧ ob = .lst ds) := fun {i ob} q => by
    by_cases hi : i < S.length
    · rw [List.getElem?_append_left hi] at q; exact .inl q
    · rw [List.getElem?_append_right (by omega)] at q
      have hi2 : i - S.length = 0 := by
        have := (List.getElem?_eq_some_iff.mp q).1
        simp at this; omega
      rw [hi2] at q
      simp at q
      exact .inr ⟨by omega, q.symm⟩
  have place : (μ ++ [b])[S.length]? = some b := by rw [← h.len]; simp
  refine ⟨by simp [h.len], fun i ob q => ?_, fun i j a ds1 ds2 q1 q2 p1 p2 => ?_⟩
  · rcases cut q with q | ⟨rfl, rfl⟩
    · obtain ⟨a, q1, q2, _⟩ := old q
      exact ⟨a, ex.at q1, q2⟩
    · exact ⟨b, place, vs, upd_same, ex.all hv⟩
  · rcases cut q1 with q1 | ⟨rfl, _⟩ <;> rcases cut q2 with q2 | ⟨rfl, _⟩
    · obtain ⟨a1, r1, _, n1⟩ := old q1
      obtain ⟨a2, r2, _, n2⟩ := old q2
      rw [ex.at r1] at p1; cases p1
      rw [ex.at r2] at p2; cases p2
      exact h.inj i j a ds1 ds2 q1 q2 r1 r2
    · obtain ⟨a1, r1, _, n1⟩ := old q1
      rw [ex.at r1] at p1; cases p1
      rw [place] at p2; cases p2
      exact absurd rfl (n1 ⟨_, rfl⟩)
    · obtain ⟨a1, r1, _, n1⟩ := old q2
      rw [ex.at r1] at p2; cases p2
      rw [place] at p1; cases p1
      exact absurd rfl (n1 ⟨_, rfl⟩)
    · rfl
theorem ext_put {b : Addr} {vs : List V} {o : HO} (hb : H b = some (.lst vs)) : Ext K G H μ (upd H b o) μ := ext_upd (NoT.lst hb) fun _ _ q => q
/-- a list changed -/
theorem SR.put {n : Nat} {b : Addr} {vs ws : List V} {ds es : List D} (h : SR K G H μ S) (hn : S[n]? = some (.lst ds)) (hm : μ[n]? = some b) (hb : H b = some (.lst vs)) (hv : IsVs K G H μ es ws) :
    SR K G (upd H b (.lst ws)) μ (S.set n (.lst es)) := by
  have ex : Ext K G H μ (upd H b (.lst ws)) μ := ext_put hb
  have hlt : n < S.length := (List.getElem?_eq_some_iff.mp hn).1
  have cut : ∀ {i : Nat} {ob : Ob}, (S.set n (.lst es))[i]? = some ob → (i ≠ n ∧ S[i]? = some ob) ∨ (i = n ∧ ob = .lst es) := fun {i ob} q => by
    by_cases hi : i = n
    · subst hi
      rw [List.getElem?_set_self hlt] at q
      cases q
      exact .inr ⟨rfl, rfl⟩
    · rw [List.getElem?_set_ne (Ne.symm hi)] at q
      exact .inl ⟨hi, q⟩
  refine ⟨by simp [h.len], fun i ob q => ?_, fun i j a ds1 ds2 q1 q2 p1 p2 => ?_⟩
  · rcases cut q with ⟨hi, q⟩ | ⟨rfl, rfl⟩
    · obtain ⟨a, r1, r2⟩ := h.ob i ob q
      refine ⟨a, r1, r2.upd ex (fun f vs z => by rw [hb] at z; cases z) fun ⟨ds', e⟩ z => ?_⟩
      subst e z
      exact hi (h.inj i n a ds' ds q hn r1 hm)
    · exact ⟨b, hm, ws, upd_same, ex.all hv⟩
  · have one : ∀ {i : Nat} {ds1 : List D}, (S.set n (.lst es))[i]? = some (.lst ds1) → ∃ ds2, S[i]? = some (.lst ds2) := fun {i ds1} q => by
      rcases cut q with ⟨_, q⟩ | ⟨rfl, _⟩
      · exact ⟨_, q⟩
      · exact ⟨_, hn⟩
    obtain ⟨d1, r1⟩ := one q1
    obtain ⟨d2, r2⟩ := one q2
    exact h.inj i j a d1 d2 r1 r2 p1 p2
end
end Q
namespace Q
open PySem L2

/-- the top's own things: objects by number, classes by number -/
structure Sig where
  G : Nat → Option Addr
  C : Nat → Option Value

/-- what is wanted of a result -/
def Post {α β : Type} (K : PySem.W.Frag) (g : Sig) (W : WX) (σ : St) (H : Hp) (μ : List Addr) (R : Hp → List Addr → α → β → Prop) (r : Res α) (Q : β → Hp → Prop) : Prop :=
  match r with
  | .ok a S => ∀ H' μ' b, Ext K g.G H μ H' μ' → SR K g.G H' μ' S → R H' μ' a b → Q b H'
  | .exc c S => ∀ H' μ' cls d, Ext K g.G H μ H' μ' → SR K g.G H' μ' S → g.C c = some cls → W cls d σ H'
  | .err => False
section
variable {α β α' β' : Type} {K : PySem.W.Frag} {g : Sig} {W : WX} {σ : St} {H H1 : Hp} {μ μ1 : List Addr} {R : Hp → List Addr → α → β → Prop} {R' : Hp → List Addr → α' → β' → Prop} {r : Res α} {Q Q' : β → Hp → Prop}
theorem Post.ext (e : Ext K g.G H μ H1 μ1) (h : Post K g W σ H μ R r Q) : Post K g W σ H1 μ1 R r Q := by
  cases r with
  | ok a S => exact fun H' μ' b x s q => h H' μ' b (e.trans x) s q
  | exc c S => exact fun H' μ' cls d x s q => h H' μ' cls d (e.trans x) s q
  | err => exact h
theorem Post.mono (h : Post K g W σ H μ R r Q) (hq : ∀ b H', Q b H' → Q' b H') : Post K g W σ H μ R r Q' := by
  cases r with
  | ok a S => exact fun H' μ' b x s q => hq _ _ (h H' μ' b x s q)
  | exc c S => exact h
  | err => exact h
/-- one step, then what follows -/
theorem Post.bind {k : α → Store → Res α'} {Q2 : β' → Hp → Prop} (h : Post K g W σ H μ R' (r.bind k) Q2) :
    Post K g W σ H μ R r fun b H' => ∃ μ' a S, r = .ok a S ∧ Ext K g.G H μ H' μ' ∧ SR K g.G H' μ' S ∧ R H' μ' a b ∧ Post K g W σ H' μ' R' (k a S) Q2 := by
  cases r with
  | ok a S => exact fun H' μ' b x s q => ⟨μ', a, S, rfl, x, s, q, h.ext x⟩
  | exc c S => exact h
  | err => exact h
theorem Post.ok {a : α} {S : Store} {b : β} (h : Post K g W σ H μ R (.ok a S) Q) (sr : SR K g.G H μ S) (q : R H μ a b) : Q b H := h H μ b Ext.refl sr q
theorem Post.ok' {a : α} {S : Store} {b : β} (h : Post K g W σ H μ R (.ok a S) Q) (x : Ext K g.G H μ H1 μ1) (sr : SR K g.G H1 μ1 S) (q : R H1 μ1 a b) : Q b H1 := h H1 μ1 b x sr q
end

abbrev RV (K : PySem.W.Frag) (g : Sig) : Hp → List Addr → D → V → Prop := fun H μ d v => IsV K g.G H μ d v
abbrev RVs (K : PySem.W.Frag) (g : Sig) : Hp → List Addr → List D → List V → Prop := fun H μ d v => IsVs K g.G H μ d v
abbrev REq {α : Type} : Hp → List Addr → α → α → Prop := fun _ _ a b => a = b

/-- the reading of an expression that does f -/
def tE (K : PySem.W.Frag) (g : Sig) (W : WX) (cf : CF) (f : SE) : TE := fun σ H Q => ∃ ρ μ S, ER K g.G H μ ρ σ ∧ SR K g.G H μ S ∧ Post K g W σ H μ (RV K g) (f cf ρ S) Q
def tT (K : PySem.W.Frag) (g : Sig) (W : WX) (cf : CF) (f : ST) : TT := fun σ H Q => ∃ ρ μ S, ER K g.G H μ ρ σ ∧ SR K g.G H μ S ∧ Post K g W σ H μ REq (f cf ρ S) Q
def tA (K : PySem.W.Frag) (g : Sig) (W : WX) (cf : CF) (f : SA) : TA := fun σ H Q => ∃ ρ μ S, ER K g.G H μ ρ σ ∧ SR K g.G H μ S ∧ Post K g W σ H μ (RVs K g) (f cf ρ S) Q
def tP (K : PySem.W.Frag) (g : Sig) (W : WX) (cf : CF) (f : SP) : TO := fun σ H Q => ∃ ρ μ S, ER K g.G H μ ρ σ ∧ SR K g.G H μ S ∧ Post K g W σ H μ REq (f cf ρ S) Q

section
variable {X : Cx} {g : Sig} {W : WX} {cf : CF}
theorem PE.imp {e : Expr} {t t' : TE} (h : PE X e t) (i : ∀ σ H Q, t' σ H Q → t σ H Q) : PE X e t' := ⟨fun pins s σ H Q I q => h.run pins s σ H Q I (i σ H Q q)⟩
theorem PT.imp {e : Expr} {t t' : TT} (h : PT X e t) (i : ∀ σ H Q, t' σ H Q → t σ H Q) : PT X e t' := ⟨fun pins s σ H Q I q => h.run pins s σ H Q I (i σ H Q q)⟩
theorem PW.imp {e : Expr} {t t' : TT} (h : PW X e t) (i : ∀ σ H Q, t' σ H Q → t σ H Q) : PW X e t' := ⟨fun wh pins s σ H Q I q => h.run wh pins s σ H Q I (i σ H Q q)⟩
theorem PA.imp {es : List Expr} {t t' : TA} (h : PA X es t) (i : ∀ σ H Q, t' σ H Q → t σ H Q) : PA X es t' := ⟨fun pos pins s σ H Q I q => h.run pos pins s σ H Q I (i σ H Q q)⟩
theorem PO.imp {e : Option Expr} {t t' : TO} (h : PO X e t) (i : ∀ σ H Q, t' σ H Q → t σ H Q) : PO X e t' := ⟨fun pins s σ H Q I q => h.run pins s σ H Q I (i σ H Q q)⟩

abbrev PEq (X : Cx) (g : Sig) (W : WX) (cf : CF) (e : Expr) (f : SE) : Prop := PE X e (tE X.K g W cf f)
abbrev PTq (X : Cx) (g : Sig) (W : WX) (cf : CF) (e : Expr) (f : ST) : Prop := PT X e (tT X.K g W cf f)
abbrev PWq (X : Cx) (g : Sig) (W : WX) (cf : CF) (e : Expr) (f : ST) : Prop := PW X e (tT X.K g W cf f)
abbrev PAq (X : Cx) (g : Sig) (W : WX) (cf : CF) (es : List Expr) (f : SA) : Prop := PA X es (tA X.K g W cf f)
abbrev POq (X : Cx) (g : Sig) (W : WX) (cf : CF) (e : Option Expr) (f : SP) : Prop := PO X e (tP X.K g W cf f)

/-! ### names, constants -/
theorem q_var {i : Nat} {x : Str} {pos : Pos} (hN : X.N[i]? = some x) (hv : Vis X.env.scope x) (hd : (x == ("__debug__" : Str)) = false) (hcd : (x == ("__classdict__" : Str)) = false) : PEq X g W cf (.Name x pos) (mVar i) := by
  refine PE.imp (pe_var hN hv hd hcd) fun σ H Q ⟨ρ, μ, S, er, sr, p⟩ => ?_
  unfold mVar at p
  cases h : ρ[i]? with
  | none => rw [h] at p; exact p.elim
  | some o =>
    cases o with
    | none => rw [h] at p; exact p.elim
    | some d =>
      rw [h] at p
      obtain ⟨v, h1, h2⟩ := er.2 i d h
      exact ⟨v, h1, p.ok sr h2⟩
/-- a constant, by its own reading -/
theorem q_const {e : Expr} {d : D} {v : V} (h : PE X e (tC v)) (r : ∀ H μ, IsV X.K g.G H μ d v) : PEq X g W cf e (mC d) :=
  PE.imp h fun σ H Q ⟨ρ, μ, S, er, sr, p⟩ => p.ok sr (r H μ)
theorem q_int {i j pos} : PEq X g W cf (.Constant (.int i) j pos) (mC (.int i)) := q_const pe_int fun _ _ => rfl
theorem q_bl {b j pos} : PEq X g W cf (.Constant (.bool b) j pos) (mC (.bl b)) := q_const pe_bl fun _ _ => rfl
theorem q_non {j pos} : PEq X g W cf (.Constant .none j pos) (mC .non) := q_const pe_non fun _ _ => rfl
theorem q_str {x : Str} {j pos} : PEq X g W cf (.Constant (.str x) j pos) (mC (.str x.cps.toList)) := q_const pe_str fun _ _ => by
  show V.str x = V.str ⟨x.cps.toList.toArray⟩
  rw [Array.toArray_toList]

/-! ### operators -/
/-- a step on two values -/
def OpD (X : Cx) (g : Sig) (fop : Value → Value → Sem Value) (f : D → D → Store → Res D) : Prop :=
  ∃ r : R2, OpR X fop r ∧ ∀ (W : WX) (σ : St) (H : Hp) (μ : List Addr) (S : Store) (d e : D) (x y : V) (Q : VK), SR X.K g.G H μ S → IsV X.K g.G H μ d x → IsV X.K g.G H μ e y → Post X.K g W σ H μ (RV X.K g) (f d e S) Q → r x y H Q
variable {a b c : Expr} {fa fb fc : SE} {pos : Pos}
theorem bin_imp {f : D → D → Store → Res D} {r : R2} (hf : ∀ (W : WX) (σ : St) (H : Hp) (μ : List Addr) (S : Store) (d e : D) (x y : V) (Q : VK), SR X.K g.G H μ S → IsV X.K g.G H μ d x → IsV X.K g.G H μ e y → Post X.K g W σ H μ (RV X.K g) (f d e S) Q → r x y H Q) :
    ∀ σ H Q, tE X.K g W cf (mOp f fa fb) σ H Q → tOp r (tE X.K g W cf fa) (tE X.K g W cf fb) σ H Q := by
  intro σ H Q ⟨ρ, μ, S, er, sr, p⟩
  refine ⟨ρ, μ, S, er, sr, (Post.bind (R := RV X.K g) p).mono fun x H1 ⟨μ1, d, S1, _, x1, sr1, rx, p1⟩ => ?_⟩
  refine ⟨ρ, μ1, S1, er.ext x1, sr1, (Post.bind (R := RV X.K g) p1).mono fun y H2 ⟨μ2, e, S2, _, x2, sr2, ry, p2⟩ => ?_⟩
  exact hf W σ H2 μ2 S2 d e x y Q sr2 (x2 d x rx) ry p2
theorem q_op {op : Operator} {f : D → D → Store → Res D} (ho : OpD X g (binaryOp op) f) (ha : PEq X g W cf a fa) (hb : PEq X g W cf b fb) : PEq X g W cf (.BinOp a op b pos) (mOp f fa fb) := by
  obtain ⟨r, h, hf⟩ := ho
  exact PE.imp (pe_op h ha hb) (bin_imp hf)
theorem q_cmp {op : CmpOp} {f : D → D → Store → Res D} (ho : OpD X g (compareOp op) f) (ha : PEq X g W cf a fa) (hb : PEq X g W cf b fb) (hm : behindInMarks op b = false) : PEq X g W cf (.Compare a [op] [b] pos) (mOp f fa fb) := by
  obtain ⟨r, h, hf⟩ := ho
  exact PE.imp (pe_cmpR h ha hb hm) (bin_imp hf)
/-- a test by the bool that comes -/
theorem tst_imp {f : SE} {t : TE} (h : ∀ σ H Q, tE X.K g W cf f σ H Q → t σ H Q) : ∀ σ H Q, tT X.K g W cf (tVal f) σ H Q → tTest t σ H Q := by
  intro σ H Q ⟨ρ, μ, S, er, sr, p⟩
  refine h σ H _ ⟨ρ, μ, S, er, sr, (Post.bind (R := RV X.K g) p).mono fun x H1 ⟨μ1, d, S1, _, x1, sr1, rx, p1⟩ => ?_⟩
  cases d with
  | bl k => exact ⟨k, rx, p1.ok sr1 rfl⟩
  | _ => exact p1.elim
theorem qt_cmp {op : CmpOp} {f : D → D → Store → Res D} (ho : OpD X g (compareOp op) f) (ha : PEq X g W cf a fa) (hb : PEq X g W cf b fb) (hm : behindInMarks op b = false) : PTq X g W cf (.Compare a [op] [b] pos) (tVal (mOp f fa fb)) := by
  obtain ⟨r, h, hf⟩ := ho
  exact PT.imp (pt_cmpR h ha hb hm) (tst_imp (bin_imp hf))
theorem chain_imp {f f' : D → D → Store → Res D} {r r' : R2}
    (hf : ∀ (W : WX) (σ : St) (H : Hp) (μ : List Addr) (S : Store) (d e : D) (x y : V) (Q : VK), SR X.K g.G H μ S → IsV X.K g.G H μ d x → IsV X.K g.G H μ e y → Post X.K g W σ H μ (RV X.K g) (f d e S) Q → r x y H Q)
    (hf' : ∀ (W : WX) (σ : St) (H : Hp) (μ : List Addr) (S : Store) (d e : D) (x y : V) (Q : VK), SR X.K g.G H μ S → IsV X.K g.G H μ d x → IsV X.K g.G H μ e y → Post X.K g W σ H μ (RV X.K g) (f' d e S) Q → r' x y H Q) :
    ∀ σ H Q, tE X.K g W cf (mChain f f' fa fb fc) σ H Q → tChain r r' (tE X.K g W cf fa) (tE X.K g W cf fb) (tE X.K g W cf fc) σ H Q := by
  intro σ H Q ⟨ρ, μ, S, er, sr, p⟩
  refine ⟨ρ, μ, S, er, sr, (Post.bind (R := RV X.K g) p).mono fun x H1 ⟨μ1, d, S1, _, x1, sr1, rx, p1⟩ => ?_⟩
  refine ⟨ρ, μ1, S1, er.ext x1, sr1, (Post.bind (R := RV X.K g) p1).mono fun y H2 ⟨μ2, e, S2, _, x2, sr2, ry, p2⟩ => ?_⟩
  refine hf W σ H2 μ2 S2 d e x y _ sr2 (x2 d x rx) ry ((Post.bind (R := RV X.K g) p2).mono fun z H3 ⟨μ3, o, S3, _, x3, sr3, rz, p3⟩ => ?_)
  cases o with
  | bl k =>
    refine ⟨k, rz, ?_⟩
    cases k with
    | true =>
      rw [if_pos rfl]
      refine ⟨ρ, μ3, S3, ((er.ext x1).ext x2).ext x3, sr3, (Post.bind (R := RV X.K g) p3).mono fun w H4 ⟨μ4, o4, S4, _, x4, sr4, rw4, p4⟩ => ?_⟩
      exact hf' W σ H4 μ4 S4 e o4 y w Q sr4 (x4 _ _ (x3 _ _ ry)) rw4 p4
    | false =>
      rw [if_neg Bool.false_ne_true]
      exact p3.ok sr3 rfl
  | _ => exact p3.elim
theorem q_chain {op op' : CmpOp} {f f' : D → D → Store → Res D} (ho : OpD X g (compareOp op) f) (ho' : OpD X g (compareOp op') f') (ha : PEq X g W cf a fa) (hb : PEq X g W cf b fb) (hc : PEq X g W cf c fc)
    (hm : lastMarks [op, op'] [b, c] = false) : PEq X g W cf (.Compare a [op, op'] [b, c] pos) (mChain f f' fa fb fc) := by
  obtain ⟨r, h, hf⟩ := ho
  obtain ⟨r', h', hf'⟩ := ho'
  exact PE.imp (pe_chain h h' ha hb hc hm) (chain_imp hf hf')
theorem qt_chain {op op' : CmpOp} {f f' : D → D → Store → Res D} (ho : OpD X g (compareOp op) f) (ho' : OpD X g (compareOp op') f') (ha : PEq X g W cf a fa) (hb : PEq X g W cf b fb) (hc : PEq X g W cf c fc)
    (hm : lastMarks [op, op'] [b, c] = false) : PTq X g W cf (.Compare a [op, op'] [b, c] pos) (tVal (mChain f f' fa fb fc)) := by
  obtain ⟨r, h, hf⟩ := ho
  obtain ⟨r', h', hf'⟩ := ho'
  exact PT.imp (pt_chain h h' ha hb hc hm) (tst_imp (chain_imp hf hf'))
def UnD (X : Cx) (g : Sig) (fop : Value → Sem Value) (f : D → Store → Res D) : Prop :=
  ∃ r : V → Hp → VK → Prop, UnR X fop r ∧ ∀ (W : WX) (σ : St) (H : Hp) (μ : List Addr) (S : Store) (d : D) (x : V) (Q : VK), SR X.K g.G H μ S → IsV X.K g.G H μ d x → Post X.K g W σ H μ (RV X.K g) (f d S) Q → r x H Q
theorem q_un {op : UnaryOp} {f : D → Store → Res D} (ho : UnD X g (unaryOp op) f) (ha : PEq X g W cf a fa) : PEq X g W cf (.UnaryOp op a pos) (mUn f fa) := by
  obtain ⟨r, h, hf⟩ := ho
  refine PE.imp (pe_un h ha) fun σ H Q ⟨ρ, μ, S, er, sr, p⟩ => ?_
  exact ⟨ρ, μ, S, er, sr, (Post.bind (R := RV X.K g) p).mono fun x H1 ⟨μ1, d, S1, _, x1, sr1, rx, p1⟩ => hf W σ H1 μ1 S1 d x Q sr1 rx p1⟩

/-! ### tests -/
theorem qt_val {e : Expr} {f : SE} (h : PEq X g W cf e f) (he : ∀ whole, isTrue e X.env whole = (do let v ← whole; standAt e.pos; holding [v] (truthy v))) : PTq X g W cf e (tVal f) := by
  refine PT.imp (pt_val h he) fun σ H Q ⟨ρ, μ, S, er, sr, p⟩ => ?_
  refine ⟨ρ, μ, S, er, sr, (Post.bind (R := RV X.K g) p).mono fun x H1 ⟨μ1, d, S1, _, x1, sr1, rx, p1⟩ => ?_⟩
  cases d with
  | bl k => exact ⟨k, rx, p1.ok sr1 rfl⟩
  | _ => exact p1.elim
variable {A B : ST} {rest : List Expr}
theorem qw_and1 (ha : PTq X g W cf a A) : PWq X g W cf (.BoolOp .And [a] pos) A := pw_and1 ha
theorem qw_or1 (ha : PTq X g W cf a A) : PWq X g W cf (.BoolOp .Or [a] pos) A := pw_or1 ha
theorem qw_and (ha : PTq X g W cf a A) (hb : PWq X g W cf (.BoolOp .And (b :: rest) pos) B) : PWq X g W cf (.BoolOp .And (a :: b :: rest) pos) (tAnd A B) := by
  refine PW.imp (pw_and ha hb) fun σ H Q ⟨ρ, μ, S, er, sr, p⟩ => ?_
  refine ⟨ρ, μ, S, er, sr, (Post.bind (R := REq) p).mono fun k H1 ⟨μ1, k', S1, _, x1, sr1, rx, p1⟩ => ?_⟩
  cases rx
  cases k with
  | true => rw [if_pos rfl]; exact ⟨ρ, μ1, S1, er.ext x1, sr1, p1⟩
  | false => rw [if_neg Bool.false_ne_true]; exact p1.ok sr1 rfl
theorem qw_or (ha : PTq X g W cf a A) (hb : PWq X g W cf (.BoolOp .Or (b :: rest) pos) B) : PWq X g W cf (.BoolOp .Or (a :: b :: rest) pos) (tOr A B) := by
  refine PW.imp (pw_or ha hb) fun σ H Q ⟨ρ, μ, S, er, sr, p⟩ => ?_
  refine ⟨ρ, μ, S, er, sr, (Post.bind (R := REq) p).mono fun k H1 ⟨μ1, k', S1, _, x1, sr1, rx, p1⟩ => ?_⟩
  cases rx
  cases k with
  | true => rw [if_pos rfl]; exact p1.ok sr1 rfl
  | false => rw [if_neg Bool.false_ne_true]; exact ⟨ρ, μ1, S1, er.ext x1, sr1, p1⟩
theorem qt_w {e : Expr} (h : PWq X g W cf e A) : PTq X g W cf e A := h.pt
theorem qt_not (ha : PTq X g W cf a A) : PTq X g W cf (.UnaryOp .Not a pos) (tNot A) := by
  refine PT.imp (pt_not ha) fun σ H Q ⟨ρ, μ, S, er, sr, p⟩ => ?_
  refine ⟨ρ, μ, S, er, sr, (Post.bind (R := REq) p).mono fun k H1 ⟨μ1, k', S1, _, x1, sr1, rx, p1⟩ => ?_⟩
  cases rx
  exact p1.ok sr1 rfl

/-! ### and, or, not as values; a if t else b -/
theorem q_one {op} (ha : PEq X g W cf a fa) : PEq X g W cf (.BoolOp op [a] pos) fa := pe_one ha
theorem q_and (ha : PEq X g W cf a fa) (hb : PEq X g W cf (.BoolOp .And (b :: rest) pos) fb) : PEq X g W cf (.BoolOp .And (a :: b :: rest) pos) (mAnd fa fb) := by
  refine PE.imp (pe_and ha hb) fun σ H Q ⟨ρ, μ, S, er, sr, p⟩ => ?_
  refine ⟨ρ, μ, S, er, sr, (Post.bind (R := RV X.K g) p).mono fun x H1 ⟨μ1, d, S1, _, x1, sr1, rx, p1⟩ => ?_⟩
  cases d with
  | bl k =>
    refine ⟨k, rx, ?_⟩
    cases k with
    | true => rw [if_pos rfl]; exact ⟨ρ, μ1, S1, er.ext x1, sr1, p1⟩
    | false => rw [if_neg Bool.false_ne_true]; exact p1.ok sr1 rfl
  | _ => exact p1.elim
theorem q_or (ha : PEq X g W cf a fa) (hb : PEq X g W cf (.BoolOp .Or (b :: rest) pos) fb) : PEq X g W cf (.BoolOp .Or (a :: b :: rest) pos) (mOr fa fb) := by
  refine PE.imp (pe_or ha hb) fun σ H Q ⟨ρ, μ, S, er, sr, p⟩ => ?_
  refine ⟨ρ, μ, S, er, sr, (Post.bind (R := RV X.K g) p).mono fun x H1 ⟨μ1, d, S1, _, x1, sr1, rx, p1⟩ => ?_⟩
  cases d with
  | bl k =>
    refine ⟨k, rx, ?_⟩
    cases k with
    | true => rw [if_pos rfl]; exact p1.ok sr1 rfl
    | false => rw [if_neg Bool.false_ne_true]; exact ⟨ρ, μ1, S1, er.ext x1, sr1, p1⟩
  | _ => exact p1.elim
theorem q_not (ha : PEq X g W cf a fa) : PEq X g W cf (.UnaryOp .Not a pos) (mNot fa) := by
  refine PE.imp (pe_not ha) fun σ H Q ⟨ρ, μ, S, er, sr, p⟩ => ?_
  refine ⟨ρ, μ, S, er, sr, (Post.bind (R := RV X.K g) p).mono fun x H1 ⟨μ1, d, S1, _, x1, sr1, rx, p1⟩ => ?_⟩
  cases d with
  | bl k => exact ⟨k, rx, p1.ok sr1 rfl⟩
  | _ => exact p1.elim
theorem q_ifExp (hc : PTq X g W cf c A) (ha : PEq X g W cf a fa) (hb : PEq X g W cf b fb) : PEq X g W cf (.IfExp c a b pos) (mIf A fa fb) := by
  refine PE.imp (pe_ifExp hc ha hb) fun σ H Q ⟨ρ, μ, S, er, sr, p⟩ => ?_
  refine ⟨ρ, μ, S, er, sr, (Post.bind (R := REq) p).mono fun k H1 ⟨μ1, k', S1, _, x1, sr1, rx, p1⟩ => ?_⟩
  cases rx
  cases k with
  | true => rw [if_pos rfl]; exact ⟨ρ, μ1, S1, er.ext x1, sr1, p1⟩
  | false => rw [if_neg Bool.false_ne_true]; exact ⟨ρ, μ1, S1, er.ext x1, sr1, p1⟩

/-! ### lists of arguments, displays -/
variable {e : Expr} {es : List Expr} {F : SA}
theorem qa_nil : PAq X g W cf [] mNil := PA.imp pa_nil fun σ H Q ⟨ρ, μ, S, er, sr, p⟩ => p.ok sr rfl
theorem qa_cons (ha : PEq X g W cf e fa) (hr : PAq X g W cf es F) (hs : starEach (e :: es) X.env = (false, eval e X.env) :: starEach es X.env) : PAq X g W cf (e :: es) (mCons fa F) := by
  refine PA.imp (pa_cons ha hr hs) fun σ H Q ⟨ρ, μ, S, er, sr, p⟩ => ?_
  refine ⟨ρ, μ, S, er, sr, (Post.bind (R := RV X.K g) p).mono fun x H1 ⟨μ1, d, S1, _, x1, sr1, rx, p1⟩ => ?_⟩
  refine ⟨ρ, μ1, S1, er.ext x1, sr1, (Post.bind (R := RVs X.K g) p1).mono fun xs H2 ⟨μ2, ds, S2, _, x2, sr2, rxs, p2⟩ => ?_⟩
  exact p2.ok sr2 ⟨x, xs, rfl, x2 d x rx, rxs⟩
theorem q_tup {k : Nat} (h : PAq X g W cf es F) : PEq X g W cf (.Tuple es k pos) (mTup F) := by
  refine PE.imp (pe_tup h) fun σ H Q ⟨ρ, μ, S, er, sr, p⟩ => ?_
  refine ⟨ρ, μ, S, er, sr, (Post.bind (R := RVs X.K g) p).mono fun xs H1 ⟨μ1, ds, S1, _, x1, sr1, rx, p1⟩ => ?_⟩
  unfold newTup at p1
  by_cases hl : ds.length ≤ SL
  · rw [if_pos hl] at p1
    refine ⟨by rw [rx.length]; exact hl, fun q hq => ?_⟩
    exact p1.ok' (ext_new hq) (sr1.upd_new hq) ⟨q, xs, rfl, .inl (.inl upd_same), (ext_new hq).all rx⟩
  · rw [if_neg hl] at p1; exact p1.elim
/-- a new list -/
theorem newLst_imp {H : Hp} {μ : List Addr} {S : Store} {ds : List D} {xs : List V} {Q : VK} {σ : St} (sr : SR X.K g.G H μ S) (rx : IsVs X.K g.G H μ ds xs) (p : Post X.K g W σ H μ (RV X.K g) (newLst ds S) Q) :
    xs.length ≤ sizeLine ∧ ∀ q, H q = none → Q (.ref q) (upd H q (.lst xs)) := by
  unfold newLst at p
  by_cases hl : ds.length ≤ SL
  · rw [if_pos hl] at p
    refine ⟨by rw [rx.length]; exact hl, fun q hq => ?_⟩
    exact p.ok' (ext_snoc hq) (sr.snoc hq rx) ⟨q, rfl, by rw [← sr.len]; simp⟩
  · rw [if_neg hl] at p; exact p.elim
theorem q_lst (h : PAq X g W cf es F) : PEq X g W cf (.List es pos) (mLst F) := by
  refine PE.imp (pe_lst h) fun σ H Q ⟨ρ, μ, S, er, sr, p⟩ => ?_
  exact ⟨ρ, μ, S, er, sr, (Post.bind (R := RVs X.K g) p).mono fun xs H1 ⟨μ1, ds, S1, _, x1, sr1, rx, p1⟩ => newLst_imp sr1 rx p1⟩

/-! ### subscripts, slices -/
def IxD (X : Cx) (g : Sig) (f : D → D → Store → Res D) : Prop :=
  ∃ r : R2, IxR X r ∧ ∀ (W : WX) (σ : St) (H : Hp) (μ : List Addr) (S : Store) (d e : D) (x y : V) (Q : VK), SR X.K g.G H μ S → IsV X.K g.G H μ d x → IsV X.K g.G H μ e y → Post X.K g W σ H μ (RV X.K g) (f d e S) Q → r x y H Q
theorem q_ix {f : D → D → Store → Res D} (ho : IxD X g f) (ha : PEq X g W cf a fa) (hb : PEq X g W cf b fb) (hs : PlainIx b) : PEq X g W cf (.Subscript a b pos) (mOp f fa fb) := by
  obtain ⟨r, h, hf⟩ := ho
  exact PE.imp (pe_ix h ha hb hs) (bin_imp hf)
theorem qo_none : POq X g W cf none mNoPart := PO.imp po_none fun σ H Q ⟨ρ, μ, S, er, sr, p⟩ => p.ok sr rfl
theorem qo_some (ha : PEq X g W cf a fa) : POq X g W cf (some a) (mPart fa) := by
  refine PO.imp (po_some ha) fun σ H Q ⟨ρ, μ, S, er, sr, p⟩ => ?_
  refine ⟨ρ, μ, S, er, sr, (Post.bind (R := RV X.K g) p).mono fun x H1 ⟨μ1, d, S1, _, x1, sr1, rx, p1⟩ => ?_⟩
  cases d with
  | int i => exact ⟨i, rx, p1.ok sr1 rfl⟩
  | _ => exact p1.elim
def SlD (X : Cx) (g : Sig) (f : D → Option Int → Option Int → Store → Res D) : Prop :=
  ∃ r : V → Option Int → Option Int → Hp → VK → Prop, SlR X r ∧ ∀ (W : WX) (σ : St) (H : Hp) (μ : List Addr) (S : Store) (d : D) (x : V) (lo hi : Option Int) (Q : VK), SR X.K g.G H μ S → IsV X.K g.G H μ d x → Post X.K g W σ H μ (RV X.K g) (f d lo hi S) Q → r x lo hi H Q
theorem q_slice {f : D → Option Int → Option Int → Store → Res D} {lo hi : Option Expr} {fl fu : SP} {p2 : Pos} (ho : SlD X g f) (ha : PEq X g W cf a fa) (hl : POq X g W cf lo fl) (hu : POq X g W cf hi fu) :
    PEq X g W cf (.Subscript a (.Slice lo hi none p2) pos) (mSlice f fa fl fu) := by
  obtain ⟨r, h, hf⟩ := ho
  refine PE.imp (pe_slice h ha hl hu) fun σ H Q ⟨ρ, μ, S, er, sr, p⟩ => ?_
  refine ⟨ρ, μ, S, er, sr, (Post.bind (R := RV X.K g) p).mono fun x H1 ⟨μ1, d, S1, _, x1, sr1, rx, p1⟩ => ?_⟩
  refine ⟨ρ, μ1, S1, er.ext x1, sr1, (Post.bind (R := REq) p1).mono fun l H2 ⟨μ2, l', S2, _, x2, sr2, rl, p2⟩ => ?_⟩
  refine ⟨ρ, μ2, S2, (er.ext x1).ext x2, sr2, (Post.bind (R := REq) p2).mono fun u H3 ⟨μ3, u', S3, _, x3, sr3, ru, p3⟩ => ?_⟩
  cases rl; cases ru
  exact hf W σ H3 μ3 S3 d x l u Q sr3 (x3 _ _ (x2 _ _ rx)) p3

/-! ### calls of what is built in -/
def CallD (X : Cx) (g : Sig) (fv : Value) (f : List D → Store → Res D) : Prop :=
  ∃ r : List V → Hp → VK → Prop, CallR X fv r ∧ ∀ (W : WX) (σ : St) (H : Hp) (μ : List Addr) (S : Store) (ds : List D) (xs : List V) (Q : VK), SR X.K g.G H μ S → IsVs X.K g.G H μ ds xs → Post X.K g W σ H μ (RV X.K g) (f ds S) Q → r xs H Q
theorem app_imp {f : List D → Store → Res D} {r : List V → Hp → VK → Prop} (hf : ∀ (W : WX) (σ : St) (H : Hp) (μ : List Addr) (S : Store) (ds : List D) (xs : List V) (Q : VK), SR X.K g.G H μ S → IsVs X.K g.G H μ ds xs → Post X.K g W σ H μ (RV X.K g) (f ds S) Q → r xs H Q) :
    ∀ σ H Q, tE X.K g W cf (mApp f F) σ H Q → tCB r (tA X.K g W cf F) σ H Q := by
  intro σ H Q ⟨ρ, μ, S, er, sr, p⟩
  exact ⟨ρ, μ, S, er, sr, (Post.bind (R := RVs X.K g) p).mono fun xs H1 ⟨μ1, ds, S1, _, x1, sr1, rx, p1⟩ => hf W σ H1 μ1 S1 ds xs Q sr1 rx p1⟩
theorem q_callB {id : String} {x : Str} {p : Pos} {f : List D → Store → Res D} (hc : CallD X g (.builtin id) f) (hg : Gl X x) (hm : X.mg x = none) (hv : bootBuiltins x = some (.builtin id)) (ha : PAq X g W cf (e :: es) F) (hn : x ≠ "__name__") (hdb : (x == ("__debug__" : Str)) = false)
    (he : starEach (e :: es) X.env = (false, eval e X.env) :: starEach es X.env) (hpl : (backTo pos (starEach es X.env)).any (·.1) = false) : PEq X g W cf (.Call (.Name x p) (e :: es) [] pos) (mApp f F) := by
  obtain ⟨r, h, hf⟩ := hc
  exact PE.imp (pe_callB h hg hm hv ha hn hdb he hpl) (app_imp hf)
theorem q_callTy {T : String} {x : Str} {p : Pos} {f : List D → Store → Res D} (hc : CallD X g (.type T) f) (hg : Gl X x) (hm : X.mg x = none) (hv : bootBuiltins x = some (.type T)) (ha : PAq X g W cf (e :: es) F) (hn : x ≠ "__name__") (hdb : (x == ("__debug__" : Str)) = false)
    (he : starEach (e :: es) X.env = (false, eval e X.env) :: starEach es X.env) (hpl : (backTo pos (starEach es X.env)).any (·.1) = false) : PEq X g W cf (.Call (.Name x p) (e :: es) [] pos) (mApp f F) := by
  obtain ⟨r, h, hf⟩ := hc
  exact PE.imp (pe_callTy h hg hm hv ha hn hdb he hpl) (app_imp hf)
end
end Q
namespace Q
open PySem L2

/-! ### what the steps do -/
def lstOf (S : Store) (n : Nat) : Option (List D) := match S[n]? with
  | some (.lst ds) => some ds
  | some (.rol ds) => some ds
  | none => none
def dAdd : D → D → Store → Res D
  | .int i, .int j, S => .ok (.int (i + j)) S
  | .str a, .str b, S => if a.length + b.length ≤ SL then .ok (.str (a ++ b)) S else .err
  | .tup a, .tup b, S => if a.length + b.length ≤ SL then .ok (.tup (a ++ b)) S else .err
  | .ref n, .ref m, S => match S[n]?, S[m]? with
    | some (.lst a), some (.lst b) => newLst (a ++ b) S
    | _, _ => .err
  | _, _, _ => .err
def dSub : D → D → Store → Res D
  | .int i, .int j, S => .ok (.int (i - j)) S
  | _, _, _ => .err
def mulOk (i j : Int) : Bool := decide (i.natAbs < 2 ^ 64) || decide (j.natAbs < 2 ^ 64) || (decide (i.natAbs < 2 ^ 2000) && decide (j.natAbs < 2 ^ 2000))
def dMul : D → D → Store → Res D
  | .int i, .int j, S => if mulOk i j then .ok (.int (i * j)) S else .err
  | _, _, _ => .err
def dDiv : D → D → Store → Res D
  | .int i, .int j, S => if 0 < j ∧ j.natAbs < 2 ^ 2000 then .ok (.int (i / j)) S else .err
  | _, _, _ => .err
def dMod : D → D → Store → Res D
  | .int i, .int j, S => if 0 < j then .ok (.int (i % j)) S else .err
  | _, _, _ => .err
def dPow : D → D → Store → Res D
  | .int i, .int j, S => if 0 ≤ j ∧ j ≤ 1000000 ∧ i.natAbs < 2 ^ 64 then .ok (.int (i ^ j.toNat)) S else .err
  | _, _, _ => .err
def dCmp (p : Int → Int → Bool) : D → D → Store → Res D
  | .int i, .int j, S => .ok (.bl (p i j)) S
  | _, _, _ => .err
abbrev dLt : D → D → Store → Res D := dCmp fun i j => decide (i < j)
abbrev dLe : D → D → Store → Res D := dCmp fun i j => decide (i ≤ j)
abbrev dGt : D → D → Store → Res D := dCmp fun i j => decide (j < i)
abbrev dGe : D → D → Store → Res D := dCmp fun i j => decide (j ≤ i)
def isNon : D → Bool
  | .non => true
  | _ => false
def dIs : D → D → Store → Res D
  | x, .non, S => .ok (.bl (isNon x)) S
  | _, _, _ => .err
def dIsNot : D → D → Store → Res D
  | x, .non, S => .ok (.bl (!isNon x)) S
  | _, _, _ => .err
/-! data without the store -/
mutual
def pyOf (S : Store) : Nat → D → Option PyData
  | 0, _ => none
  | _ + 1, .non => some .none
  | _ + 1, .bl b => some (.bool b)
  | _ + 1, .int i => some (.int i)
  | _ + 1, .str s => some (.str (mkS s))
  | n + 1, .tup ds => (pysOf S n ds).map .tuple
  | n + 1, .ref k => match lstOf S k with
    | some ds => (pysOf S n ds).map .list
    | none => none
  | _ + 1, .glb _ => none
def pysOf (S : Store) : Nat → List D → Option (List PyData)
  | 0, _ => none
  | _ + 1, [] => some []
  | n + 1, d :: ds => match pyOf S n d, pysOf S n ds with
    | some a, some as => some (a :: as)
    | _, _ => none
end
def PF : Nat := 1000
def dEqB (S : Store) (x y : D) : Option Bool := match pyOf S PF x, pyOf S PF y with
  | some a, some b => if SeqAt.shaped a && SeqAt.shaped b then some (PyData.eqv a b) else none
  | _, _ => none
def dEqS : D → D → Option Bool
  | .str a, .str b => some (decide (a = b))
  | .int i, .int j => some (decide (i = j))
  | _, _ => none
def dEqO (S : Store) (x y : D) : Option Bool := match dEqS x y with
  | some b => some b
  | none => dEqB S x y
def dEq (x y : D) (S : Store) : Res D := match dEqO S x y with
  | some b => .ok (.bl b) S
  | none => .err
def dNe (x y : D) (S : Store) : Res D := match dEqO S x y with
  | some b => .ok (.bl (!b)) S
  | none => .err
def flatD : D → Bool
  | .non => true
  | .bl _ => true
  | .int _ => true
  | .str _ => true
  | _ => false
def eqFlat : D → D → Bool
  | .non, .non => true
  | .bl a, .bl b => a == b
  | .bl a, .int b => (if a then 1 else 0) == b
  | .int a, .bl b => a == (if b then 1 else 0)
  | .int a, .int b => a == b
  | .str a, .str b => a == b
  | _, _ => false
def inD (x : D) (ds : List D) : Bool := ds.any fun y => eqFlat y x
def strIn (a b : List Nat) : Bool := !(Builtin.Str.occurrences (mkS b) (mkS a) 0 b.length 1).isEmpty
/-- the one dict of the top's own: PARTS -/
def partsL : List (String × Int) := [("plus", 2), ("times", 2), ("less", 2), ("least", 2), ("most", 2), ("choose", 3)]
def partsD : List (List Nat × Int) := [([112, 108, 117, 115], 2), ([116, 105, 109, 101, 115], 2), ([108, 101, 115, 115], 2), ([108, 101, 97, 115, 116], 2), ([109, 111, 115, 116], 2), ([99, 104, 111, 111, 115, 101], 3)]
def isIn (x y : D) (S : Store) : Option Bool := match x, y with
  | .str a, .str b => some (strIn a b)
  | x, .tup ds => if flatD x && ds.all flatD then some (inD x ds) else none
  | x, .ref n => match lstOf S n with
    | some ds => if flatD x && ds.all flatD then some (inD x ds) else none
    | none => none
  | .str a, .glb 0 => some (partsD.lookup a).isSome
  | _, _ => none
def dIn (x y : D) (S : Store) : Res D := match isIn x y S with
  | some b => .ok (.bl b) S
  | none => .err
def dNotIn (x y : D) (S : Store) : Res D := match isIn x y S with
  | some b => .ok (.bl (!b)) S
  | none => .err
def dIx : D → D → Store → Res D
  | .tup ds, .int i, S => match atI ds i with
    | some d => .ok d S
    | none => .err
  | .ref n, .int i, S => match lstOf S n with
    | some ds => match atI ds i with
      | some d => .ok d S
      | none => .err
    | none => .err
  | .str s, .int i, S => if s.length ≤ SL then match atI s i with
      | some c => .ok (.str [c]) S
      | none => .err
    else .err
  | .glb 0, .str s, S => match partsD.lookup s with
    | some i => .ok (.int i) S
    | none => .err
  | _, _, _ => .err
def cutL {α : Type} (xs : List α) (lo hi : Option Int) : List α := (xs.drop (HT.sIx xs.length 0 lo)).take (HT.sIx xs.length xs.length hi - HT.sIx xs.length 0 lo)
def dSl : D → Option Int → Option Int → Store → Res D
  | .tup ds, lo, hi, S => .ok (.tup (cutL ds lo hi)) S
  | .ref n, lo, hi, S => match lstOf S n with
    | some ds => .ok (.ref S.length) (S ++ [.lst (cutL ds lo hi)])
    | none => .err
  | .str s, lo, hi, S => if s.length ≤ SL then .ok (.str (cutL s lo hi)) S else .err
  | _, _, _, _ => .err
def dNeg : D → Store → Res D
  | .int i, S => .ok (.int (-i)) S
  | _, _ => .err
/-! calls -/
def dLen : List D → Store → Res D
  | [.str s], S => if s.length ≤ SL then .ok (.int s.length) S else .err
  | [.tup ds], S => .ok (.int ds.length) S
  | [.ref n], S => match lstOf S n with
    | some ds => .ok (.int ds.length) S
    | none => .err
  | _, _ => .err
def numT (i : Int) : List Nat := (Str.ofString (toString i)).cps.toList
def dStr : List D → Store → Res D
  | [.int i], S => if i.natAbs < 2 ^ 1900 then .ok (.str (numT i)) S else .err
  | _, _ => .err
def dInt : List D → Store → Res D
  | [.int i], S => .ok (.int i) S
  | [.str s], S => if s.length ≤ 640 then match intText? (mkS s) with
      | some n => .ok (.int n) S
      | none => .err
    else .err
  | _, _ => .err
def dTuple : List D → Store → Res D
  | [.tup ds], S => .ok (.tup ds) S
  | [.ref n], S => match lstOf S n with
    | some ds => .ok (.tup ds) S
    | none => .err
  | _, _ => .err
def dMax2 : List D → Store → Res D
  | [.int i, .int j], S => .ok (.int (if j > i then j else i)) S
  | _, _ => .err
def dMin2 : List D → Store → Res D
  | [.int i, .int j], S => .ok (.int (if j < i then j else i)) S
  | _, _ => .err
def allInts : List D → Option (List Int)
  | [] => some []
  | .int i :: r => (allInts r).map (i :: ·)
  | _ :: _ => none
def dSum : List D → Store → Res D
  | [.ref n], S => match lstOf S n with
    | some ds => match allInts ds with
      | some ns => .ok (.int ns.sum) S
      | none => .err
    | none => .err
  | _, _ => .err
def isiB (a b : String) : Bool := a == b || (a == "bool" && b == "int")
def dIsi (T : String) (x : D) (S : Store) : Res D := match typeD S x with
  | some a => if ["int", "bool", "str", "tuple", "list", "dict"].contains T then .ok (.bl (isiB a T)) S else .err
  | none => .err
/-! methods -/
def dAppend : D → List D → Store → Res D
  | .ref n, [d], S => match S[n]? with
    | some (.lst ds) => if ds.length < SL then .ok .non (S.set n (.lst (ds ++ [d]))) else .err
    | _ => .err
  | _, _, _ => .err
def allStrs : List D → Option (List (List Nat))
  | [] => some []
  | .str s :: r => (allStrs r).map (s :: ·)
  | _ :: _ => none
def joinT (a : List Nat) (ys : List (List Nat)) : List Nat := (Txt.join (mkS a) (ys.map mkS)).cps.toList
def joinGo (a : List Nat) (ds : List D) (S : Store) : Res D := match allStrs ds with
  | some ys => if (ys.map (·.length)).sum + ys.length * a.length ≤ SL then .ok (.str (joinT a ys)) S else .err
  | none => .err
def dJoin : D → List D → Store → Res D
  | .str a, [.ref n], S => match lstOf S n with
    | some ds => joinGo a ds S
    | none => .err
  | .str a, [.tup ds], S => joinGo a ds S
  | _, _, _ => .err
def startsT (a b : List Nat) (i : Int) : Bool := Txt.startswith3 (mkS a) (mkS b) i
def dStarts : D → List D → Store → Res D
  | .str a, [.str b, .int i], S => .ok (.bl (startsT a b i)) S
  | _, _, _ => .err
def dGet : D → List D → Store → Res D
  | .glb 0, [.str s, d], S => match partsD.lookup s with
    | some i => .ok (.int i) S
    | none => .ok d S
  | _, _, _ => .err
def dPut : D → D → D → Store → Res Unit
  | .ref n, .int i, d, S => match S[n]? with
    | some (.lst ds) => match ixN ds.length i with
      | some j => .ok () (S.set n (.lst (ds.set j d)))
      | none => .err
    | _ => .err
  | _, _, _, _ => .err
end Q
namespace Q
open PySem L2

/-- the entries of a written dict: text keys, ints -/
def EntriesAre (P : Params) : List DictEntry → List (String × Int) → Prop
  | [], l => l = []
  | e :: r, l => ∃ x i l', l = (x, i) :: l' ∧ (∃ t, e.key = .str (Str.ofString x) t) ∧ e.hash = PyData.keyHash P (Str.ofString x) ∧ (∃ u, e.val = .int i u) ∧ EntriesAre P r l'
/-- PARTS stands at a -/
structure PartsAt (K : PySem.W.Frag) (w : World) (a : Addr) : Prop where
  at_ : ∃ es n, K.lookup a = some ⟨.type "dict", none, .dict es n, #[]⟩ ∧ EntriesAre w.params es.toList partsL
  low : (a == sysModules) = false
/-- what the rules ask of the top -/
structure GOk (K : PySem.W.Frag) (w : World) (g : Sig) : Prop where
  parts : ∃ a, g.G 0 = some a ∧ PartsAt K w a

section
variable {K : PySem.W.Frag} {g : Sig} {H : Hp} {μ : List Addr} {S : Store}
theorem isV_ref {n : Nat} {x : V} (h : IsV K g.G H μ (.ref n) x) : ∃ a, x = .ref a ∧ μ[n]? = some a := h
theorem isV_tup {ds : List D} {x : V} (h : IsV K g.G H μ (.tup ds) x) : ∃ a vs, x = .ref a ∧ SqT K H a vs ∧ IsVs K g.G H μ ds vs := h
theorem SR.lstOf {n : Nat} {ds : List D} {x : V} (sr : SR K g.G H μ S) (h : lstOf S n = some ds) (hx : IsV K g.G H μ (.ref n) x) : ∃ a vs, x = .ref a ∧ SqL K H a vs ∧ IsVs K g.G H μ ds vs := by
  obtain ⟨a, rfl, ha⟩ := isV_ref hx
  unfold Q.lstOf at h
  cases e : S[n]? with
  | none => rw [e] at h; cases h
  | some o =>
    obtain ⟨b, hb, r⟩ := sr.ob n o e
    rw [ha] at hb; cases hb
    rw [e] at h
    cases o with
    | lst es =>
      cases h
      obtain ⟨vs, h1, h2⟩ := r.sql (.inl rfl)
      exact ⟨a, vs, rfl, h1, h2⟩
    | rol es =>
      cases h
      obtain ⟨vs, h1, h2⟩ := r.sql (.inr rfl)
      exact ⟨a, vs, rfl, h1, h2⟩
theorem SR.lst {n : Nat} {ds : List D} {x : V} (sr : SR K g.G H μ S) (h : S[n]? = some (.lst ds)) (hx : IsV K g.G H μ (.ref n) x) : ∃ a vs, x = .ref a ∧ μ[n]? = some a ∧ H a = some (.lst vs) ∧ IsVs K g.G H μ ds vs := by
  obtain ⟨a, rfl, ha⟩ := isV_ref hx
  obtain ⟨b, hb, vs, h1, h2⟩ := sr.ob n _ h
  rw [ha] at hb; cases hb
  exact ⟨a, vs, rfl, ha, h1, h2⟩
theorem isVs1 {d : D} {xs : List V} (h : IsVs K g.G H μ [d] xs) : ∃ v, xs = [v] ∧ IsV K g.G H μ d v := by
  obtain ⟨v, r, rfl, h1, h2⟩ := h
  have h2 : r = [] := h2
  exact ⟨v, by rw [h2], h1⟩
theorem isVs2 {d e : D} {xs : List V} (h : IsVs K g.G H μ [d, e] xs) : ∃ v w, xs = [v, w] ∧ IsV K g.G H μ d v ∧ IsV K g.G H μ e w := by
  obtain ⟨v, r, rfl, h1, h2⟩ := h
  obtain ⟨w, rfl, h3⟩ := isVs1 h2
  exact ⟨v, w, rfl, h1, h3⟩
theorem atI_v {ds : List D} {vs : List V} {i : Int} {d : D} (h : IsVs K g.G H μ ds vs) (e : atI ds i = some d) : ∃ v, atI vs i = some v ∧ IsV K g.G H μ d v := by
  unfold atI at e ⊢
  rw [h.length]
  cases q : ixN ds.length i with
  | none => rw [q] at e; cases e
  | some j =>
    rw [q] at e
    exact h.get e
theorem cutV_v {ds : List D} {vs : List V} {lo hi : Option Int} (h : IsVs K g.G H μ ds vs) : IsVs K g.G H μ (cutL ds lo hi) (cutV vs lo hi) := by
  unfold cutL cutV
  rw [h.length]
  exact (h.drop _).take _
theorem cutL_length {α : Type} (xs : List α) (lo hi : Option Int) : (cutL xs lo hi).length ≤ xs.length := by
  unfold cutL
  rw [List.length_take, List.length_drop]
  omega
end

section
variable {X : Cx} {g : Sig}
theorem o_add : OpD X g (binaryOp .Add) dAdd := by
  refine ⟨_, op_add.or (op_add_str.or (op_catA.or op_cat)), fun W σ H μ S d e x y Q sr hd he p => ?_⟩
  cases d with
  | int i =>
    cases e with
    | int j => exact .inl ⟨i, j, hd, he, p.ok sr rfl⟩
    | _ => exact p.elim
  | str a =>
    cases e with
    | str b =>
      simp only [dAdd] at p
      by_cases h : a.length + b.length ≤ SL
      · rw [if_pos h] at p
        refine .inr (.inl ⟨_, _, hd, he, ?_, ?_⟩)
        · show a.toArray.size + b.toArray.size ≤ _
          rw [List.size_toArray, List.size_toArray]
          exact h
        · have e1 : (mkS a ++ mkS b : Str) = mkS (a ++ b) := by
            show (⟨a.toArray ++ b.toArray⟩ : Str) = ⟨(a ++ b).toArray⟩
            simp
          rw [e1]
          exact p.ok sr rfl
      · rw [if_neg h] at p; exact p.elim
    | _ => exact p.elim
  | tup a =>
    cases e with
    | tup b =>
      simp only [dAdd] at p
      by_cases h : a.length + b.length ≤ SL
      · rw [if_pos h] at p
        obtain ⟨p1, xs, rfl, h1, h2⟩ := isV_tup hd
        obtain ⟨p2, ys, rfl, h3, h4⟩ := isV_tup he
        have l1 := h2.length
        have l2 := h4.length
        refine .inr (.inr (.inl ⟨p1, p2, xs, ys, rfl, rfl, h1, h3, by rw [l1, l2]; exact h, fun z => ?_, fun _ z => ?_, fun _ _ q hq => ?_⟩))
        · subst z
          have : a = [] := List.length_eq_zero_iff.mp l1.symm
          subst this
          exact p.ok sr he
        · subst z
          have : b = [] := List.length_eq_zero_iff.mp l2.symm
          subst this
          rw [List.append_nil] at p
          exact p.ok sr hd
        · exact p.ok' (ext_new hq) (sr.upd_new hq) ⟨q, xs ++ ys, rfl, .inl (.inl upd_same), (ext_new hq).all (h2.append h4)⟩
      · rw [if_neg h] at p; exact p.elim
    | _ => exact p.elim
  | ref n =>
    cases e with
    | ref m =>
      simp only [dAdd] at p
      cases h1 : S[n]? with
      | none => simp only [h1] at p; exact p.elim
      | some o1 =>
        cases h2 : S[m]? with
        | none => simp only [h1, h2] at p; cases o1 <;> exact p.elim
        | some o2 =>
          cases o1 with
          | rol _ => simp only [h1, h2] at p; exact p.elim
          | lst a =>
            cases o2 with
            | rol _ => simp only [h1, h2] at p; exact p.elim
            | lst b =>
              simp only [h1, h2] at p
              obtain ⟨p1, xs, rfl, _, q1, q2⟩ := sr.lst h1 hd
              obtain ⟨p2, ys, rfl, _, q3, q4⟩ := sr.lst h2 he
              obtain ⟨l, k⟩ := newLst_imp sr (q2.append q4) p
              exact .inr (.inr (.inr ⟨p1, p2, xs, ys, rfl, rfl, q1, q3, by rw [← List.length_append]; exact l, k⟩))
    | _ => exact p.elim
  | _ => exact p.elim
theorem o_sub : OpD X g (binaryOp .Sub) dSub := by
  refine ⟨_, op_sub, fun W σ H μ S d e x y Q sr hd he p => ?_⟩
  cases d with
  | int i =>
    cases e with
    | int j => exact ⟨i, j, hd, he, p.ok sr rfl⟩
    | _ => exact p.elim
  | _ => exact p.elim
theorem log_lt {n k : Nat} (h : n < 2 ^ k) (h0 : 0 < k) : n.log2 < k := PySem.Flt.log2_lt_of h0 h
theorem o_mul : OpD X g (binaryOp .Mult) dMul := by
  refine ⟨_, op_mul.or op_mulW, fun W σ H μ S d e x y Q sr hd he p => ?_⟩
  cases d with
  | int i =>
    cases e with
    | int j =>
      simp only [dMul] at p
      by_cases h : mulOk i j = true
      · rw [if_pos h] at p
        unfold mulOk at h
        simp only [Bool.or_eq_true, Bool.and_eq_true, decide_eq_true_eq] at h
        rcases h with (h | h) | ⟨h1, h2⟩
        · exact .inl ⟨i, j, hd, he, .inl ⟨by omega, by omega⟩, p.ok sr rfl⟩
        · exact .inl ⟨i, j, hd, he, .inr ⟨by omega, by omega⟩, p.ok sr rfl⟩
        · exact .inr ⟨i, j, hd, he, wide_mul h1 h2 (by decide) (by decide) (by decide), p.ok sr rfl⟩
      · rw [if_neg h] at p; exact p.elim
    | _ => exact p.elim
  | _ => exact p.elim
theorem o_div : OpD X g (binaryOp .FloorDiv) dDiv := by
  refine ⟨_, op_fdivW, fun W σ H μ S d e x y Q sr hd he p => ?_⟩
  cases d with
  | int i =>
    cases e with
    | int j =>
      simp only [dDiv] at p
      by_cases h : 0 < j ∧ j.natAbs < 2 ^ 2000
      · rw [if_pos h] at p
        exact ⟨i, j, hd, he, wide_div h.1 h.2 (by decide) (by decide), p.ok sr rfl⟩
      · rw [if_neg h] at p; exact p.elim
    | _ => exact p.elim
  | _ => exact p.elim
theorem o_mod : OpD X g (binaryOp .Mod) dMod := by
  refine ⟨_, op_mod, fun W σ H μ S d e x y Q sr hd he p => ?_⟩
  cases d with
  | int i =>
    cases e with
    | int j =>
      simp only [dMod] at p
      by_cases h : 0 < j
      · rw [if_pos h] at p
        exact ⟨i, j, hd, he, h, p.ok sr rfl⟩
      · rw [if_neg h] at p; exact p.elim
    | _ => exact p.elim
  | _ => exact p.elim
theorem o_pow : OpD X g (binaryOp .Pow) dPow := by
  refine ⟨_, op_pow, fun W σ H μ S d e x y Q sr hd he p => ?_⟩
  cases d with
  | int i =>
    cases e with
    | int j =>
      simp only [dPow] at p
      by_cases h : 0 ≤ j ∧ j ≤ 1000000 ∧ i.natAbs < 2 ^ 64
      · rw [if_pos h] at p
        exact ⟨i, j, hd, he, h, p.ok sr rfl⟩
      · rw [if_neg h] at p; exact p.elim
    | _ => exact p.elim
  | _ => exact p.elim
theorem o_cmp {op : CmpOp} {f : Int → Int → Bool} (h : OpR X (compareOp op) (rI0 fun i j => .bl (f i j))) : OpD X g (compareOp op) (dCmp f) := by
  refine ⟨_, h, fun W σ H μ S d e x y Q sr hd he p => ?_⟩
  cases d with
  | int i =>
    cases e with
    | int j => exact ⟨i, j, hd, he, p.ok sr rfl⟩
    | _ => exact p.elim
  | _ => exact p.elim
theorem o_lt : OpD X g (compareOp .Lt) dLt := o_cmp op_lt
theorem o_le : OpD X g (compareOp .LtE) dLe := o_cmp op_le
theorem o_gt : OpD X g (compareOp .Gt) dGt := o_cmp op_gt
theorem o_ge : OpD X g (compareOp .GtE) dGe := o_cmp op_ge
theorem isNon_v {K : PySem.W.Frag} {G : Nat → Option Addr} {H : Hp} {μ : List Addr} {d : D} {x : V} (h : IsV K G H μ d x) : decide (x = .non) = isNon d := by
  cases d with
  | non => cases h; rfl
  | bl _ => cases h; rfl
  | int _ => cases h; rfl
  | str _ => cases h; rfl
  | tup _ => obtain ⟨_, _, rfl, _⟩ := h; rfl
  | ref _ => obtain ⟨_, rfl, _⟩ := h; rfl
  | glb _ => obtain ⟨_, rfl, _⟩ := h; rfl
theorem o_is : OpD X g (compareOp .Is) dIs := by
  refine ⟨_, op_isN, fun W σ H μ S d e x y Q sr hd he p => ?_⟩
  cases e with
  | non => exact ⟨he, p.ok sr (by rw [isNon_v hd]; rfl)⟩
  | _ => exact p.elim
theorem o_isnot : OpD X g (compareOp .IsNot) dIsNot := by
  refine ⟨_, op_notN, fun W σ H μ S d e x y Q sr hd he p => ?_⟩
  cases e with
  | non => exact ⟨he, p.ok sr (by rw [isNon_v hd]; rfl)⟩
  | _ => exact p.elim

/-! ### == -/
theorem py_dp {K : PySem.W.Frag} {H : Hp} {μ : List Addr} {S : Store} (sr : SR K g.G H μ S) : ∀ n : Nat,
    (∀ (d : D) (x : V) (a : PyData), IsV K g.G H μ d x → pyOf S n d = some a → Dp K H x a) ∧ (∀ (ds : List D) (xs : List V) (as : List PyData), IsVs K g.G H μ ds xs → pysOf S n ds = some as → DpAll K H xs as)
  | 0 => ⟨fun d x a _ h => by simp [pyOf] at h, fun d x a _ h => by simp [pysOf] at h⟩
  | n + 1 => by
    obtain ⟨ih1, ih2⟩ := py_dp sr n
    refine ⟨fun d x a hd h => ?_, fun ds xs as hds h => ?_⟩
    · cases d with
      | non => cases hd; simp only [pyOf, Option.some.injEq] at h; subst h; exact .non
      | bl b => cases hd; simp only [pyOf, Option.some.injEq] at h; subst h; exact .bl b
      | int i => cases hd; simp only [pyOf, Option.some.injEq] at h; subst h; exact .int i
      | str s => cases hd; simp only [pyOf, Option.some.injEq] at h; subst h; exact .str _
      | tup ds =>
        obtain ⟨p, vs, rfl, h1, h2⟩ := isV_tup hd
        rw [pyOf] at h
        obtain ⟨as, e, rfl⟩ := Option.map_eq_some_iff.mp h
        exact .tup h1 (ih2 ds vs as h2 e)
      | ref k =>
        rw [pyOf] at h
        cases e : lstOf S k with
        | none => rw [e] at h; cases h
        | some ds =>
          rw [e] at h
          obtain ⟨as, e2, rfl⟩ := Option.map_eq_some_iff.mp h
          obtain ⟨p, vs, rfl, h1, h2⟩ := sr.lstOf e hd
          exact .lst h1 (ih2 ds vs as h2 e2)
      | glb k => simp [pyOf] at h
    · cases ds with
      | nil =>
        have e : xs = [] := hds
        subst e
        simp only [pysOf, Option.some.injEq] at h
        subst h
        exact .nil
      | cons d ds =>
        obtain ⟨v, r, rfl, h1, h2⟩ := hds
        rw [pysOf] at h
        cases e1 : pyOf S n d with
        | none => rw [e1] at h; cases h
        | some a =>
          cases e2 : pysOf S n ds with
          | none => rw [e1, e2] at h; cases h
          | some as' =>
            rw [e1, e2] at h
            cases h
            exact .cons (ih1 d v a h1 e1) (ih2 ds r as' h2 e2)
theorem eqB_dp {K : PySem.W.Frag} {H : Hp} {μ : List Addr} {S : Store} (sr : SR K g.G H μ S) {d e : D} {x y : V} {b : Bool} (hd : IsV K g.G H μ d x) (he : IsV K g.G H μ e y) (h : dEqB S d e = some b) :
    ∃ a a', Dp K H x a ∧ Dp K H y a' ∧ SeqAt.shaped a = true ∧ SeqAt.shaped a' = true ∧ PyData.eqv a a' = b := by
  unfold dEqB at h
  cases e1 : pyOf S PF d with
  | none => simp only [e1] at h; cases h
  | some a =>
    cases e2 : pyOf S PF e with
    | none => simp only [e1, e2] at h; cases h
    | some a' =>
      simp only [e1, e2] at h
      by_cases hs : (SeqAt.shaped a && SeqAt.shaped a') = true
      · rw [if_pos hs] at h
        obtain ⟨s1, s2⟩ := Bool.and_eq_true_iff.mp hs
        exact ⟨a, a', (py_dp sr _).1 d x a hd e1, (py_dp sr _).1 e y a' he e2, s1, s2, Option.some.inj h⟩
      · rw [if_neg hs] at h; cases h
theorem eqS_dp {K : PySem.W.Frag} {G : Nat → Option Addr} {H : Hp} {μ : List Addr} {d e : D} {x y : V} {b : Bool} (hd : IsV K G H μ d x) (he : IsV K G H μ e y) (h : dEqS d e = some b) : scal x y = true ∧ decide (x = y) = b := by
  unfold dEqS at h
  split at h
  · rename_i a a'
    cases h
    have e1 : x = .str (mkS a) := hd
    have e2 : y = .str (mkS a') := he
    subst e1 e2
    refine ⟨rfl, ?_⟩
    rw [decide_eq_decide]
    exact ⟨fun q => by
      have q1 : mkS a = mkS a' := V.str.inj q
      have q2 : a.toArray = a'.toArray := by injection q1
      simpa using congrArg Array.toList q2, fun q => by rw [q]⟩
  · rename_i i j
    cases h
    have e1 : x = .int i := hd
    have e2 : y = .int j := he
    subst e1 e2
    refine ⟨rfl, ?_⟩
    rw [decide_eq_decide]
    exact ⟨fun q => V.int.inj q, fun q => by rw [q]⟩
  · cases h
theorem o_eq (hu : X.A.units + 64 < cLine) : OpD X g (compareOp .Eq) dEq := by
  refine ⟨_, op_eq.or (op_eqD hu), fun W σ H μ S d e x y Q sr hd he p => ?_⟩
  unfold dEq dEqO at p
  cases h0 : dEqS d e with
  | some b =>
    simp only [h0] at p
    obtain ⟨h1, h2⟩ := eqS_dp hd he h0
    exact .inl ⟨h1, p.ok sr (by rw [h2]; rfl)⟩
  | none =>
    simp only [h0] at p
    cases h : dEqB S d e with
    | none => simp only [h] at p; exact p.elim
    | some b =>
      simp only [h] at p
      obtain ⟨a, a', h1, h2, h3, h4, h5⟩ := eqB_dp sr hd he h
      exact .inr ⟨a, a', h1, h2, h3, h4, p.ok sr (by rw [h5]; rfl)⟩
theorem o_ne (hu : X.A.units + 64 < cLine) : OpD X g (compareOp .NotEq) dNe := by
  refine ⟨_, op_ne.or (op_neD hu), fun W σ H μ S d e x y Q sr hd he p => ?_⟩
  unfold dNe dEqO at p
  cases h0 : dEqS d e with
  | some b =>
    simp only [h0] at p
    obtain ⟨h1, h2⟩ := eqS_dp hd he h0
    exact .inl ⟨h1, p.ok sr (by rw [h2]; rfl)⟩
  | none =>
    simp only [h0] at p
    cases h : dEqB S d e with
    | none => simp only [h] at p; exact p.elim
    | some b =>
      simp only [h] at p
      obtain ⟨a, a', h1, h2, h3, h4, h5⟩ := eqB_dp sr hd he h
      exact .inr ⟨a, a', h1, h2, h3, h4, p.ok sr (by rw [h5]; rfl)⟩

/-! ### in, not in -/
theorem flat_v {K : PySem.W.Frag} {G : Nat → Option Addr} {H : Hp} {μ : List Addr} {d : D} {x : V} (h : IsV K G H μ d x) (f : flatD d = true) : flatV x = true := by
  cases d with
  | non => cases h; rfl
  | bl _ => cases h; rfl
  | int _ => cases h; rfl
  | str _ => cases h; rfl
  | _ => cases f
theorem flats_v {K : PySem.W.Frag} {G : Nat → Option Addr} {H : Hp} {μ : List Addr} : ∀ {ds : List D} {xs : List V}, IsVs K G H μ ds xs → ds.all flatD = true → xs.all flatV = true
  | [], xs, h, _ => by
    have h : xs = [] := h
    subst h; rfl
  | d :: ds, xs, h, f => by
    obtain ⟨v, r, rfl, h1, h2⟩ := h
    rw [List.all_cons, Bool.and_eq_true] at f ⊢
    exact ⟨flat_v h1 f.1, flats_v h2 f.2⟩
theorem mkS_inj {a b : List Nat} : (mkS a == mkS b) = (a == b) := by
  by_cases h : a = b
  · subst h; simp
  · have h' : ¬ mkS a = mkS b := fun e => h (by
      have := congrArg (fun z : Str => z.cps.toList) e
      simpa using this)
    rw [beq_eq_false_iff_ne.mpr h, beq_eq_false_iff_ne.mpr h']
theorem eq_v {K : PySem.W.Frag} {G : Nat → Option Addr} {H : Hp} {μ : List Addr} {d e : D} {x y : V} (h : IsV K G H μ d x) (h' : IsV K G H μ e y) (f : flatD d = true) (f' : flatD e = true) : eqV x y = eqFlat d e := by
  cases d with
  | non => cases h; cases e <;> first | (cases h'; rfl) | cases f'
  | bl _ => cases h; cases e <;> first | (cases h'; rfl) | cases f'
  | int _ => cases h; cases e <;> first | (cases h'; rfl) | cases f'
  | str _ =>
    cases h
    cases e with
    | str b => cases h'; exact mkS_inj
    | non => cases h'; rfl
    | bl _ => cases h'; rfl
    | int _ => cases h'; rfl
    | _ => cases f'
  | _ => cases f
theorem inD_v {K : PySem.W.Frag} {G : Nat → Option Addr} {H : Hp} {μ : List Addr} {d : D} {x : V} (h : IsV K G H μ d x) (f : flatD d = true) : ∀ {ds : List D} {xs : List V}, IsVs K G H μ ds xs → ds.all flatD = true → inV x xs = inD d ds
  | [], xs, h', _ => by
    have h' : xs = [] := h'
    subst h'; rfl
  | e :: ds, xs, h', f' => by
    obtain ⟨v, r, rfl, h1, h2⟩ := h'
    rw [List.all_cons, Bool.and_eq_true] at f'
    have ih := inD_v h f h2 f'.2
    unfold inV inD at ih ⊢
    rw [List.any_cons, List.any_cons, ih, eq_v h1 h f'.1 f]
/-! the written dict -/
theorem entries_lit {P : Params} : ∀ {es : List DictEntry} {l : List (String × Int)}, EntriesAre P es l → PySem.W.KeysLit P es
  | [], _, _ => trivial
  | e :: r, l, h => by
    obtain ⟨x, i, l', rfl, ⟨t, hk⟩, hh, _, h⟩ := h
    exact ⟨⟨_, t, hk, hh⟩, entries_lit h⟩
def lookS (l : List (String × Int)) (z : Str) : Option Int := (l.find? fun p => decide (Str.ofString p.1 = z)).map (·.2)
theorem entries_find {P : Params} {z : Str} : ∀ {es : List DictEntry} {l : List (String × Int)}, EntriesAre P es l →
    (match es.find? (·.key.isStr z) with
      | some e => some (some e.val)
      | none => if es.any (·.refKey) then none else some none) = some ((lookS l z).bind fun i => (es.find? (·.key.isStr z)).map (·.val)) ∧
    (∀ i, lookS l z = some i → ∃ u, ((es.find? (·.key.isStr z)).map (·.val)) = some (.int i u)) ∧ (lookS l z = none → es.find? (·.key.isStr z) = none)
  | [], l, h => by
    have h : l = [] := h
    subst h
    exact ⟨rfl, fun i e => (by cases e), fun _ => rfl⟩
  | e :: r, l, h => by
    obtain ⟨x, i, l', rfl, ⟨t, hk⟩, hh, ⟨u, hv⟩, h⟩ := h
    obtain ⟨ih1, ih2, ih3⟩ := entries_find (z := z) h
    have hs : e.key.isStr z = decide (Str.ofString x = z) := by
      rw [hk]
      show (Str.ofString x == z) = _
      by_cases q : Str.ofString x = z
      · rw [q]; simp
      · rw [decide_eq_false q, beq_eq_false_iff_ne.mpr q]
    have hr : e.refKey = false := by
      unfold DictEntry.refKey
      rw [hk]
    by_cases q : Str.ofString x = z
    · have hs' : e.key.isStr z = true := by rw [hs, decide_eq_true q]
      have e1 : (e :: r).find? (·.key.isStr z) = some e := by simp [List.find?_cons, hs']
      have e2 : lookS ((x, i) :: l') z = some i := by simp [lookS, List.find?_cons, q]
      rw [e1, e2]
      exact ⟨rfl, fun j ej => ⟨u, by cases ej; rw [← hv]; rfl⟩, fun z => by cases z⟩
    · have hs' : e.key.isStr z = false := by rw [hs, decide_eq_false q]
      have e1 : (e :: r).find? (·.key.isStr z) = r.find? (·.key.isStr z) := by simp [List.find?_cons, hs']
      have e2 : lookS ((x, i) :: l') z = lookS l' z := by simp [lookS, List.find?_cons, q]
      have e3 : (e :: r).any (·.refKey) = r.any (·.refKey) := by simp [hr]
      rw [e1, e2, e3]
      exact ⟨ih1, ih2, ih3⟩
theorem parts_nsIn {K : PySem.W.Frag} {w : World} {a : Addr} (h : PartsAt K w a) (z : Str) : ∃ r, PySem.W.nsIn K a z = some r ∧ match lookS partsL z with
    | some i => ∃ u, r = some (.int i u)
    | none => r = none := by
  obtain ⟨⟨es, n, hl, he⟩, _⟩ := h
  obtain ⟨h1, h2, h3⟩ := entries_find (z := z) he
  refine ⟨_, by unfold PySem.W.nsIn; rw [hl]; exact h1, ?_⟩
  cases q : lookS partsL z with
  | none => rfl
  | some i =>
    obtain ⟨u, e⟩ := h2 i q
    exact ⟨u, e⟩
theorem parts_look (s : List Nat) : lookS partsL (mkS s) = partsD.lookup s := by
  have key : ∀ (x : String) (l : List Nat), (Str.ofString x).cps.toList = l → decide (Str.ofString x = mkS s) = (s == l) := fun x l e => by
    have e' : Str.ofString x = mkS l := by
      rw [← e]
    rw [e']
    have := mkS_inj (a := l) (b := s)
    by_cases q : l = s
    · subst q; simp
    · have q' : ¬ mkS l = mkS s := fun z => by rw [z] at this; simp at this; exact q this
      rw [decide_eq_false q', beq_eq_false_iff_ne.mpr (Ne.symm q)]
  have h1 := key "plus" _ (by decide +kernel : _ = [112, 108, 117, 115])
  have h2 := key "times" _ (by decide +kernel : _ = [116, 105, 109, 101, 115])
  have h3 := key "less" _ (by decide +kernel : _ = [108, 101, 115, 115])
  have h4 := key "least" _ (by decide +kernel : _ = [108, 101, 97, 115, 116])
  have h5 := key "most" _ (by decide +kernel : _ = [109, 111, 115, 116])
  have h6 := key "choose" _ (by decide +kernel : _ = [99, 104, 111, 111, 115, 101])
  unfold lookS partsL partsD
  simp only [List.find?_cons, List.lookup_cons, h1, h2, h3, h4, h5, h6]
  cases s == [112, 108, 117, 115] <;> cases s == [116, 105, 109, 101, 115] <;> cases s == [108, 101, 115, 115] <;> cases s == [108, 101, 97, 115, 116] <;> cases s == [109, 111, 115, 116] <;> cases s == [99, 104, 111, 111, 115, 101] <;> rfl
theorem glb0 {K : PySem.W.Frag} {w : World} {H : Hp} {μ : List Addr} {x : V} (G : GOk K w g) (h : IsV K g.G H μ (.glb 0) x) : ∃ a, x = .ref a ∧ PartsAt K w a := by
  obtain ⟨a, rfl, e⟩ := h
  obtain ⟨b, e', p⟩ := G.parts
  rw [e] at e'; cases e'
  exact ⟨a, rfl, p⟩
theorem kdict {K : PySem.W.Frag} {w : World} {a : Addr} (h : PartsAt K w a) : ∃ es n, KDict K w a es n := by
  obtain ⟨⟨es, n, hl, he⟩, low⟩ := h
  exact ⟨es, n, hl, entries_lit he, low⟩
/-- in, not in: flags say which -/
theorem in_imp {W : WX} {σ : St} {H : Hp} {μ : List Addr} {S : Store} {d e : D} {x y : V} {b : Bool} {Q : VK} (G : GOk X.K X.w g) (sr : SR X.K g.G H μ S) (hd : IsV X.K g.G H μ d x) (he : IsV X.K g.G H μ e y) (hb : isIn d e S = some b) :
    (∃ i j, x = .str i ∧ y = .str j ∧ b = !(Builtin.Str.occurrences j i 0 j.length 1).isEmpty) ∨
    (∃ p xs, y = .ref p ∧ (SqL X.K H p xs ∨ SqT X.K H p xs) ∧ flatV x = true ∧ xs.all flatV = true ∧ b = inV x xs) ∨
    (∃ a z r, x = .str z ∧ y = .ref a ∧ g.G 0 = some a ∧ PartsAt X.K X.w a ∧ PySem.W.nsIn X.K a z = some r ∧ b = r.isSome) := by
  cases e with
  | str t =>
    cases d with
    | str s =>
      cases hd; cases he
      simp only [isIn, Option.some.injEq] at hb
      refine .inl ⟨_, _, rfl, rfl, ?_⟩
      rw [← hb]
      unfold strIn
      have : (mkS t).length = t.length := by simp [Str.length]
      rw [this]
    | _ => simp [isIn] at hb
  | tup ds =>
    obtain ⟨p, vs, rfl, h1, h2⟩ := isV_tup he
    have hb : (if flatD d && ds.all flatD then some (inD d ds) else none) = some b := by cases d <;> exact hb
    by_cases q : (flatD d && ds.all flatD) = true
    · rw [if_pos q] at hb
      obtain ⟨q1, q2⟩ := Bool.and_eq_true_iff.mp q
      exact .inr (.inl ⟨p, vs, rfl, .inr h1, flat_v hd q1, flats_v h2 q2, by rw [inD_v hd q1 h2 q2]; exact (Option.some.inj hb).symm⟩)
    · rw [if_neg q] at hb; cases hb
  | ref n =>
    cases hl : lstOf S n with
    | none =>
      have hb : (none : Option Bool) = some b := by cases d <;> simpa [isIn, hl] using hb
      cases hb
    | some ds =>
      obtain ⟨p, vs, rfl, h1, h2⟩ := sr.lstOf hl he
      have hb : (if flatD d && ds.all flatD then some (inD d ds) else none) = some b := by
        cases d <;> simp only [isIn, hl] at hb <;> exact hb
      by_cases q : (flatD d && ds.all flatD) = true
      · rw [if_pos q] at hb
        obtain ⟨q1, q2⟩ := Bool.and_eq_true_iff.mp q
        exact .inr (.inl ⟨p, vs, rfl, .inl h1, flat_v hd q1, flats_v h2 q2, by rw [inD_v hd q1 h2 q2]; exact (Option.some.inj hb).symm⟩)
      · rw [if_neg q] at hb; cases hb
  | glb n =>
    cases d with
    | str s =>
      cases n with
      | zero =>
        obtain ⟨a, rfl, p⟩ := glb0 G he
        obtain ⟨a', e1, e2⟩ := he
        cases e1
        cases hd
        obtain ⟨r, h1, h2⟩ := parts_nsIn p (mkS s)
        refine .inr (.inr ⟨a, _, r, rfl, rfl, e2, p, h1, ?_⟩)
        have hb : (partsD.lookup s).isSome = b := by simpa [isIn] using hb
        rw [parts_look] at h2
        rw [← hb]
        cases q : partsD.lookup s with
        | none => rw [q] at h2; rw [h2]; rfl
        | some i => rw [q] at h2; obtain ⟨u, h2⟩ := h2; rw [h2]; rfl
      | succ n => simp [isIn] at hb
    | _ => simp [isIn] at hb
  | _ => cases d <;> simp [isIn] at hb
theorem o_in (G : GOk X.K X.w g) : OpD X g (compareOp .In) dIn := by
  obtain ⟨a0, ha0, p0⟩ := G.parts
  obtain ⟨es, n, kd⟩ := kdict p0
  refine ⟨_, op_in_str.or (op_in_seq.or (op_in_kd kd)), fun W σ H μ S d e x y Q sr hd he p => ?_⟩
  unfold dIn at p
  cases hb : isIn d e S with
  | none => rw [hb] at p; exact p.elim
  | some b =>
    rw [hb] at p
    have q : Q (.bl b) H := p.ok sr rfl
    rcases in_imp (W := W) (σ := σ) (Q := Q) G sr hd he hb with ⟨i, j, rfl, rfl, rfl⟩ | ⟨pp, xs, rfl, h1, h2, h3, rfl⟩ | ⟨a, z, r, rfl, rfl, h1, h2, h3, rfl⟩
    · exact .inl ⟨i, j, rfl, rfl, q⟩
    · exact .inr (.inl ⟨pp, xs, rfl, h1, h2, h3, q⟩)
    · rw [ha0] at h1; cases h1
      exact .inr (.inr ⟨z, r, rfl, rfl, h3, q⟩)
theorem o_notin (G : GOk X.K X.w g) : OpD X g (compareOp .NotIn) dNotIn := by
  obtain ⟨a0, ha0, p0⟩ := G.parts
  obtain ⟨es, n, kd⟩ := kdict p0
  refine ⟨_, op_notin_str.or (op_notIn_seq.or (op_notIn_kd kd)), fun W σ H μ S d e x y Q sr hd he p => ?_⟩
  unfold dNotIn at p
  cases hb : isIn d e S with
  | none => rw [hb] at p; exact p.elim
  | some b =>
    rw [hb] at p
    have q : Q (.bl (!b)) H := p.ok sr rfl
    rcases in_imp (W := W) (σ := σ) (Q := Q) G sr hd he hb with ⟨i, j, rfl, rfl, rfl⟩ | ⟨pp, xs, rfl, h1, h2, h3, rfl⟩ | ⟨a, z, r, rfl, rfl, h1, h2, h3, rfl⟩
    · exact .inl ⟨i, j, rfl, rfl, q⟩
    · exact .inr (.inl ⟨pp, xs, rfl, h1, h2, h3, q⟩)
    · rw [ha0] at h1; cases h1
      exact .inr (.inr ⟨z, r, rfl, rfl, h3, q⟩)

/-! ### o[i] -/
theorem getItem_r {op : Value → Value → Sem Value} {r : R2} (h : OpR X op r) : OpR X op r := h
theorem ix_parts (G : GOk X.K X.w g) : IxR X (fun x y H Q => ∃ a z i, x = .ref a ∧ y = .str z ∧ PartsAt X.K X.w a ∧ lookS partsL z = some i ∧ Q (.int i) H) := by
  intro value slice pins s σ H x y v u Q I rx ry h hs
  obtain ⟨a, z, i, rfl, rfl, p, hl, q⟩ := h
  obtain ⟨r, h1, h2⟩ := parts_nsIn p z
  rw [hl] at h2
  obtain ⟨uu, rfl⟩ := h2
  obtain ⟨⟨es, n, hk, he⟩, _⟩ := p
  exact ix_kdict value slice pins s σ H (.ref a) (.str z) v u Q I rx ry ⟨a, z, .int i, rfl, rfl, ⟨es, n, _, hk, entries_lit he, h1, uu, rfl⟩, q⟩ hs
theorem o_ix (G : GOk X.K X.w g) : IxD X g dIx := by
  refine ⟨_, ix_tup.or (ix_list.or (ix_str.or (ix_parts (g := g) G))), fun W σ H μ S d e x y Q sr hd he p => ?_⟩
  cases d with
  | tup ds =>
    cases e with
    | int i =>
      simp only [dIx] at p
      cases q : atI ds i with
      | none => rw [q] at p; exact p.elim
      | some d' =>
        rw [q] at p
        obtain ⟨a, vs, rfl, h1, h2⟩ := isV_tup hd
        obtain ⟨v, h3, h4⟩ := atI_v h2 q
        exact .inl ⟨a, vs, i, v, rfl, he, h1, h3, p.ok sr h4⟩
    | _ => exact p.elim
  | ref n =>
    cases e with
    | int i =>
      simp only [dIx] at p
      cases hl : lstOf S n with
      | none => rw [hl] at p; exact p.elim
      | some ds =>
        rw [hl] at p
        simp only at p
        cases q : atI ds i with
        | none => rw [q] at p; exact p.elim
        | some d' =>
          rw [q] at p
          obtain ⟨a, vs, rfl, h1, h2⟩ := sr.lstOf hl hd
          obtain ⟨v, h3, h4⟩ := atI_v h2 q
          exact .inr (.inl ⟨a, vs, i, v, rfl, he, h1, h3, p.ok sr h4⟩)
    | _ => exact p.elim
  | str s =>
    cases e with
    | int i =>
      simp only [dIx] at p
      by_cases hz : s.length ≤ SL
      · rw [if_pos hz] at p
        cases q : atI s i with
        | none => rw [q] at p; exact p.elim
        | some c =>
          rw [q] at p
          refine .inr (.inr (.inl ⟨mkS s, i, c, hd, he, ?_, ?_, p.ok sr rfl⟩))
          · show s.toArray.size ≤ _
            rw [List.size_toArray]; exact hz
          · exact q
      · rw [if_neg hz] at p; exact p.elim
    | _ => exact p.elim
  | glb n =>
    cases n with
    | zero =>
      cases e with
      | str s =>
        simp only [dIx] at p
        cases q : partsD.lookup s with
        | none => rw [q] at p; exact p.elim
        | some i =>
          rw [q] at p
          obtain ⟨a, rfl, pa⟩ := glb0 G hd
          exact .inr (.inr (.inr ⟨a, mkS s, i, rfl, he, pa, by rw [parts_look]; exact q, p.ok sr rfl⟩))
      | _ => exact p.elim
    | succ n => cases e <;> exact p.elim
  | _ => exact p.elim

/-! ### o[lo:hi] -/
theorem cutS_mk (s : List Nat) (lo hi : Option Int) : cutS (mkS s) lo hi = mkS (cutL s lo hi) := by
  unfold cutS cutL
  have : (mkS s).length = s.length := by simp [Str.length]
  rw [this]
theorem o_sl : SlD X g dSl := by
  refine ⟨_, sl_tupA.or (sl_list.or sl_str), fun W σ H μ S d x lo hi Q sr hd p => ?_⟩
  cases d with
  | tup ds =>
    simp only [dSl] at p
    obtain ⟨a, vs, rfl, h1, h2⟩ := isV_tup hd
    refine .inl ⟨a, vs, rfl, h1, fun ⟨z1, z2⟩ => ?_, fun _ q hq => ?_⟩
    · have e : cutL ds lo hi = ds := by
        unfold cutL
        rw [h2.length] at z1 z2
        rw [z1, z2]
        simp
      rw [e] at p
      exact p.ok sr hd
    · exact p.ok' (ext_new hq) (sr.upd_new hq) ⟨q, _, rfl, .inl (.inl upd_same), (ext_new hq).all (cutV_v h2)⟩
  | ref n =>
    simp only [dSl] at p
    cases hl : lstOf S n with
    | none => rw [hl] at p; exact p.elim
    | some ds =>
      rw [hl] at p
      obtain ⟨a, vs, rfl, h1, h2⟩ := sr.lstOf hl hd
      refine .inr (.inl ⟨a, vs, rfl, h1, fun q hq => ?_⟩)
      exact p.ok' (ext_snoc hq) (sr.snoc hq (cutV_v h2)) ⟨q, rfl, by rw [← sr.len]; simp⟩
  | str s =>
    simp only [dSl] at p
    by_cases hz : s.length ≤ SL
    · rw [if_pos hz] at p
      refine .inr (.inr ⟨mkS s, hd, ?_, ?_⟩)
      · show s.toArray.size ≤ _
        rw [List.size_toArray]; exact hz
      · exact p.ok sr (by rw [cutS_mk]; rfl)
    · rw [if_neg hz] at p; exact p.elim
  | _ => exact p.elim
theorem o_neg : UnD X g (unaryOp .USub) dNeg := by
  refine ⟨_, un_neg, fun W σ H μ S d x Q sr hd p => ?_⟩
  cases d with
  | int i => exact ⟨i, hd, p.ok sr rfl⟩
  | _ => exact p.elim

/-! ### calls -/
theorem mkS_len (s : List Nat) : (mkS s).length = s.length := by simp [Str.length]
theorem o_len : CallD X g (.builtin "len") dLen := by
  refine ⟨_, call_len_str.or call_len_seq, fun W σ H μ S ds xs Q sr hd p => ?_⟩
  match ds, hd, p with
  | [.str s], hd, p =>
    obtain ⟨v, rfl, h⟩ := isVs1 hd
    simp only [dLen] at p
    by_cases hz : s.length ≤ SL
    · rw [if_pos hz] at p
      refine .inl ⟨mkS s, by rw [show v = _ from h], by rw [mkS_len]; exact hz, ?_⟩
      rw [mkS_len]
      exact p.ok sr rfl
    · rw [if_neg hz] at p; exact p.elim
  | [.tup ds], hd, p =>
    obtain ⟨v, rfl, h⟩ := isVs1 hd
    obtain ⟨a, vs, rfl, h1, h2⟩ := isV_tup h
    refine .inr ⟨a, vs, rfl, .inr h1, ?_⟩
    rw [h2.length]
    exact p.ok sr rfl
  | [.ref n], hd, p =>
    obtain ⟨v, rfl, h⟩ := isVs1 hd
    simp only [dLen] at p
    cases hl : lstOf S n with
    | none => rw [hl] at p; exact p.elim
    | some ds =>
      rw [hl] at p
      obtain ⟨a, vs, rfl, h1, h2⟩ := sr.lstOf hl h
      refine .inr ⟨a, vs, rfl, .inl h1, ?_⟩
      rw [h2.length]
      exact p.ok sr rfl
  | [], _, p => exact p.elim
  | [.non], _, p => exact p.elim
  | [.bl _], _, p => exact p.elim
  | [.int _], _, p => exact p.elim
  | [.glb _], _, p => exact p.elim
  | z :: _ :: _, _, p => cases z <;> exact p.elim
theorem str_of_list (z : Str) : z = mkS z.cps.toList := by
  show z = (⟨z.cps.toList.toArray⟩ : Str)
  rw [Array.toArray_toList]
theorem o_str : CallD X g (.type "str") dStr := by
  refine ⟨_, call_str_int, fun W σ H μ S ds xs Q sr hd p => ?_⟩
  match ds, hd, p with
  | [.int i], hd, p =>
    obtain ⟨v, rfl, h⟩ := isVs1 hd
    simp only [dStr] at p
    by_cases hz : i.natAbs < 2 ^ 1900
    · rw [if_pos hz] at p
      refine ⟨i, by rw [show v = _ from h], Nat.lt_trans (log_lt hz (by decide)) (by decide), ?_⟩
      exact p.ok sr (by show _ = V.str (mkS (numT i)); unfold numT; rw [← str_of_list])
    · rw [if_neg hz] at p; exact p.elim
  | [], _, p => exact p.elim
  | [.non], _, p => exact p.elim
  | [.bl _], _, p => exact p.elim
  | [.str _], _, p => exact p.elim
  | [.tup _], _, p => exact p.elim
  | [.ref _], _, p => exact p.elim
  | [.glb _], _, p => exact p.elim
  | z :: _ :: _, _, p => cases z <;> exact p.elim
theorem o_int : CallD X g (.type "int") dInt := by
  refine ⟨_, call_int1.or call_int_str, fun W σ H μ S ds xs Q sr hd p => ?_⟩
  match ds, hd, p with
  | [.int i], hd, p =>
    obtain ⟨v, rfl, h⟩ := isVs1 hd
    exact .inl (.inl ⟨i, by rw [show v = _ from h], p.ok sr rfl⟩)
  | [.str s], hd, p =>
    obtain ⟨v, rfl, h⟩ := isVs1 hd
    simp only [dInt] at p
    by_cases hz : s.length ≤ 640
    · rw [if_pos hz] at p
      cases q : intText? (mkS s) with
      | none => rw [q] at p; exact p.elim
      | some n =>
        rw [q] at p
        exact .inr ⟨mkS s, n, by rw [show v = _ from h], q, by rw [mkS_len]; exact hz, p.ok sr rfl⟩
    · rw [if_neg hz] at p; exact p.elim
  | [], _, p => exact p.elim
  | [.non], _, p => exact p.elim
  | [.bl _], _, p => exact p.elim
  | [.tup _], _, p => exact p.elim
  | [.ref _], _, p => exact p.elim
  | [.glb _], _, p => exact p.elim
  | z :: _ :: _, _, p => cases z <;> exact p.elim
theorem o_tuple : CallD X g (.type "tuple") dTuple := by
  refine ⟨_, call_tuple_of, fun W σ H μ S ds xs Q sr hd p => ?_⟩
  match ds, hd, p with
  | [.tup ds], hd, p =>
    obtain ⟨v, rfl, h⟩ := isVs1 hd
    obtain ⟨a, vs, rfl, h1, h2⟩ := isV_tup h
    exact ⟨a, vs, rfl, .inr ⟨h1, p.ok sr h⟩⟩
  | [.ref n], hd, p =>
    obtain ⟨v, rfl, h⟩ := isVs1 hd
    simp only [dTuple] at p
    cases hl : lstOf S n with
    | none => rw [hl] at p; exact p.elim
    | some ds =>
      rw [hl] at p
      obtain ⟨a, vs, rfl, h1, h2⟩ := sr.lstOf hl h
      refine ⟨a, vs, rfl, .inl ⟨h1, fun q hq => ?_⟩⟩
      exact p.ok' (ext_new hq) (sr.upd_new hq) ⟨q, vs, rfl, .inl (.inl upd_same), (ext_new hq).all h2⟩
  | [], _, p => exact p.elim
  | [.non], _, p => exact p.elim
  | [.bl _], _, p => exact p.elim
  | [.int _], _, p => exact p.elim
  | [.str _], _, p => exact p.elim
  | [.glb _], _, p => exact p.elim
  | z :: _ :: _, _, p => cases z <;> exact p.elim
theorem o_max2 (hc : X.calm = true) : CallD X g (.builtin "max") dMax2 := by
  refine ⟨_, call_max2 hc, fun W σ H μ S ds xs Q sr hd p => ?_⟩
  match ds, hd, p with
  | [.int i, .int j], hd, p =>
    obtain ⟨v, w, rfl, h, h'⟩ := isVs2 hd
    exact ⟨i, j, by rw [show v = _ from h, show w = _ from h'], p.ok sr rfl⟩
  | [], _, p => exact p.elim
  | [_], _, p => cases ‹D› <;> exact p.elim
  | .int _ :: .non :: [], _, p => exact p.elim
  | .int _ :: .bl _ :: [], _, p => exact p.elim
  | .int _ :: .str _ :: [], _, p => exact p.elim
  | .int _ :: .tup _ :: [], _, p => exact p.elim
  | .int _ :: .ref _ :: [], _, p => exact p.elim
  | .int _ :: .glb _ :: [], _, p => exact p.elim
  | .non :: _ :: [], _, p => exact p.elim
  | .bl _ :: _ :: [], _, p => exact p.elim
  | .str _ :: _ :: [], _, p => exact p.elim
  | .tup _ :: _ :: [], _, p => exact p.elim
  | .ref _ :: _ :: [], _, p => exact p.elim
  | .glb _ :: _ :: [], _, p => exact p.elim
  | a :: b :: _ :: _, _, p => cases a <;> cases b <;> exact p.elim
theorem o_min2 (hc : X.calm = true) : CallD X g (.builtin "min") dMin2 := by
  refine ⟨_, call_min2 hc, fun W σ H μ S ds xs Q sr hd p => ?_⟩
  match ds, hd, p with
  | [.int i, .int j], hd, p =>
    obtain ⟨v, w, rfl, h, h'⟩ := isVs2 hd
    exact ⟨i, j, by rw [show v = _ from h, show w = _ from h'], p.ok sr rfl⟩
  | [], _, p => exact p.elim
  | [_], _, p => cases ‹D› <;> exact p.elim
  | .int _ :: .non :: [], _, p => exact p.elim
  | .int _ :: .bl _ :: [], _, p => exact p.elim
  | .int _ :: .str _ :: [], _, p => exact p.elim
  | .int _ :: .tup _ :: [], _, p => exact p.elim
  | .int _ :: .ref _ :: [], _, p => exact p.elim
  | .int _ :: .glb _ :: [], _, p => exact p.elim
  | .non :: _ :: [], _, p => exact p.elim
  | .bl _ :: _ :: [], _, p => exact p.elim
  | .str _ :: _ :: [], _, p => exact p.elim
  | .tup _ :: _ :: [], _, p => exact p.elim
  | .ref _ :: _ :: [], _, p => exact p.elim
  | .glb _ :: _ :: [], _, p => exact p.elim
  | a :: b :: _ :: _, _, p => cases a <;> cases b <;> exact p.elim
theorem ints_v {K : PySem.W.Frag} {G : Nat → Option Addr} {H : Hp} {μ : List Addr} : ∀ {ds : List D} {vs : List V} {ns : List Int}, IsVs K G H μ ds vs → allInts ds = some ns → vs = ns.map V.int
  | [], vs, ns, h, e => by
    have h : vs = [] := h
    cases e; subst h; rfl
  | .int i :: r, vs, ns, h, e => by
    obtain ⟨v, w, rfl, h1, h2⟩ := h
    simp only [allInts] at e
    obtain ⟨ms, e1, rfl⟩ := Option.map_eq_some_iff.mp e
    rw [ints_v h2 e1, show v = _ from h1]
    rfl
  | .non :: _, _, _, _, e => by cases e
  | .bl _ :: _, _, _, _, e => by cases e
  | .str _ :: _, _, _, _, e => by cases e
  | .tup _ :: _, _, _, _, e => by cases e
  | .ref _ :: _, _, _, _, e => by cases e
  | .glb _ :: _, _, _, _, e => by cases e
theorem strs_v {K : PySem.W.Frag} {G : Nat → Option Addr} {H : Hp} {μ : List Addr} : ∀ {ds : List D} {vs : List V} {ys : List (List Nat)}, IsVs K G H μ ds vs → allStrs ds = some ys → vs = (ys.map mkS).map V.str
  | [], vs, ns, h, e => by
    have h : vs = [] := h
    cases e; subst h; rfl
  | .str i :: r, vs, ns, h, e => by
    obtain ⟨v, w, rfl, h1, h2⟩ := h
    simp only [allStrs] at e
    obtain ⟨ms, e1, rfl⟩ := Option.map_eq_some_iff.mp e
    rw [strs_v h2 e1, show v = _ from h1]
    rfl
  | .non :: _, _, _, _, e => by cases e
  | .bl _ :: _, _, _, _, e => by cases e
  | .int _ :: _, _, _, _, e => by cases e
  | .tup _ :: _, _, _, _, e => by cases e
  | .ref _ :: _, _, _, _, e => by cases e
  | .glb _ :: _, _, _, _, e => by cases e
theorem o_sum (hc : X.calm = true) : CallD X g (.builtin "sum") dSum := by
  refine ⟨_, cr_sum hc, fun W σ H μ S ds xs Q sr hd p => ?_⟩
  match ds, hd, p with
  | [.ref n], hd, p =>
    obtain ⟨v, rfl, h⟩ := isVs1 hd
    simp only [dSum] at p
    cases hl : lstOf S n with
    | none => rw [hl] at p; exact p.elim
    | some ds =>
      rw [hl] at p
      simp only at p
      cases hn : allInts ds with
      | none => rw [hn] at p; exact p.elim
      | some ns =>
        rw [hn] at p
        obtain ⟨a, vs, rfl, h1, h2⟩ := sr.lstOf hl h
        refine ⟨a, ns, rfl, ?_, p.ok sr rfl⟩
        rw [← ints_v h2 hn]; exact h1
  | [], _, p => exact p.elim
  | [.non], _, p => exact p.elim
  | [.bl _], _, p => exact p.elim
  | [.int _], _, p => exact p.elim
  | [.str _], _, p => exact p.elim
  | [.tup _], _, p => exact p.elim
  | [.glb _], _, p => exact p.elim
  | z :: _ :: _, _, p => cases z <;> exact p.elim
end
end Q
namespace Q
open PySem L2
section
variable {X : Cx} {g : Sig} {W : WX} {cf : CF}

/-! ### isinstance -/
theorem tyX_of {K : PySem.W.Frag} {w : World} {H : Hp} {μ : List Addr} {S : Store} {d : D} {x : V} {t : String} (G : GOk K w g) (sr : SR K g.G H μ S) (hd : IsV K g.G H μ d x) (ht : typeD S d = some t) : TyX K H x (.type t) := by
  cases d with
  | non => cases hd; cases ht; exact .base .non
  | bl b => cases hd; cases ht; exact .base (.bl b)
  | int i => cases hd; cases ht; exact .base (.int i)
  | str s => cases hd; cases ht; exact .base (.str _)
  | tup ds =>
    obtain ⟨a, vs, rfl, h1, _⟩ := isV_tup hd
    cases ht
    rcases h1 with (h1 | ⟨o, h1⟩) | ⟨o, its, n, h1, h2, _⟩
    · exact .base (.tup h1)
    · exact .fTuple h1
    · exact .kTuple h1 h2
  | ref n =>
    simp only [typeD] at ht
    cases q : S[n]? with
    | none => rw [q] at ht; cases ht
    | some o =>
      obtain ⟨a, rfl, ha⟩ := isV_ref hd
      obtain ⟨b, hb, r⟩ := sr.ob n o q
      rw [ha] at hb; cases hb
      rw [q] at ht
      cases o with
      | lst ds =>
        cases ht
        obtain ⟨vs, h1, _⟩ := r
        exact .base (.lst h1)
      | rol ds =>
        cases ht
        obtain ⟨vs, h1, _⟩ := r
        rcases h1 with ⟨o, h1⟩ | ⟨o, its, n, h1, h2, _⟩
        · exact .base (.frz h1)
        · exact .kList h1 h2
  | glb n =>
    cases n with
    | zero =>
      cases ht
      obtain ⟨a, rfl, p⟩ := glb0 G hd
      obtain ⟨⟨es, n, hl, _⟩, _⟩ := p
      exact .kDict hl rfl
    | succ n => cases ht
theorem typeD_in {S : Store} {d : D} {t : String} (ht : typeD S d = some t) : t = "NoneType" ∨ t = "bool" ∨ t = "int" ∨ t = "str" ∨ t = "tuple" ∨ t = "list" ∨ t = "dict" := by
  cases d with
  | ref n =>
    simp only [typeD] at ht
    cases q : S[n]? with
    | none => rw [q] at ht; cases ht
    | some o => rw [q] at ht; cases o <;> (cases ht; simp)
  | glb n => cases n <;> cases ht; simp
  | _ => cases ht; simp
theorem isi_kit {K : PySem.W.Frag} {a T : String} (ha : a = "NoneType" ∨ a = "bool" ∨ a = "int" ∨ a = "str" ∨ a = "tuple" ∨ a = "list" ∨ a = "dict") (hT : ["int", "bool", "str", "tuple", "list", "dict"].contains T = true) :
    PySem.W.kitOne K (.type a) (.type T) = some (isiB a T) := by
  have hT : T = "int" ∨ T = "bool" ∨ T = "str" ∨ T = "tuple" ∨ T = "list" ∨ T = "dict" := by simpa using hT
  apply kit_ty
  rcases ha with rfl | rfl | rfl | rfl | rfl | rfl | rfl <;> rcases hT with rfl | rfl | rfl | rfl | rfl | rfl <;> decide +kernel
variable {e : Expr} {es : List Expr} {f : SE} {F : SA} {pos p p2 : Pos} {x xT : Str} {T : String}
theorem q_isi (G : GOk X.K X.w g) (he : PEq X g W cf e f) (hg : Gl X "isinstance") (hm : X.mg "isinstance" = none) (hgT : Gl X xT) (hmT : X.mg xT = none) (hvT : bootBuiltins xT = some (.type T)) (hnT : xT ≠ "__name__") (hdT : (xT == ("__debug__" : Str)) = false)
    (hs1 : starEach [e, .Name xT p2] X.env = (false, eval e X.env) :: starEach [.Name xT p2] X.env) :
    PEq X g W cf (.Call (.Name "isinstance" p) [e, .Name xT p2] [] pos) (mUn (dIsi T) f) := by
  have ha := pa_cons he (pa_cons (pe_bltn (pos := p2) (v := .ty T) hgT hmT hvT rfl hnT hdT) pa_nil (by rfl)) hs1
  refine PE.imp (pe_callB call_isi hg hm (by decide +kernel) ha (by decide) (by decide) hs1 (by rfl)) fun σ H Q ⟨ρ, μ, S, er, sr, q⟩ => ?_
  refine ⟨ρ, μ, S, er, sr, (Post.bind (R := RV X.K g) q).mono fun v H1 ⟨μ1, d, S1, _, x1, sr1, rx, p1⟩ => ?_⟩
  unfold dIsi at p1
  cases ht : typeD S1 d with
  | none => rw [ht] at p1; exact p1.elim
  | some a =>
    rw [ht] at p1
    simp only at p1
    by_cases hT : ["int", "bool", "str", "tuple", "list", "dict"].contains T = true
    · rw [if_pos hT] at p1
      exact ⟨v, .ty T, .type a, .type T, isiB a T, rfl, .ty T, tyX_of G sr1 rx ht, isi_kit (typeD_in ht) hT, p1.ok sr1 rfl⟩
    · rw [if_neg hT] at p1; exact p1.elim

/-! ### methods of what is built in -/
def MtD (X : Cx) (g : Sig) (id : String) (f : D → List D → Store → Res D) : Prop :=
  ∃ r : V → List V → Hp → VK → Prop, MtR X id r ∧ ∀ (W : WX) (σ : St) (H : Hp) (μ : List Addr) (S : Store) (d : D) (ds : List D) (x : V) (xs : List V) (Q : VK), SR X.K g.G H μ S → IsV X.K g.G H μ d x → IsVs X.K g.G H μ ds xs → Post X.K g W σ H μ (RV X.K g) (f d ds S) Q → r x xs H Q
theorem recv_ok {pins : List (Addr × Obj)} {σ : St} {H : Hp} {s : Shared} {μ : List Addr} {S : Store} {d : D} {x : V} {v : Value} {t : String} (I : Inv X pins σ H s) (G : GOk X.K X.w g) (sr : SR X.K g.G H μ S) (hd : IsV X.K g.G H μ d x) (r : RelV x v) (ht : typeD S d = some t)
    (h : t = "str" ∨ t = "list" ∨ t = "dict") : s.TypeIs v t ∧ ∀ a, v = .ref a → ∃ ob, s.heap.get? a = some ob ∧ ob.dict = none := by
  cases d with
  | str s =>
    cases hd; cases ht
    exact tyV_is I r rfl
  | ref n =>
    simp only [typeD] at ht
    cases q : S[n]? with
    | none => rw [q] at ht; cases ht
    | some o =>
      obtain ⟨a, rfl, ha⟩ := isV_ref hd
      obtain ⟨b, hb, rr⟩ := sr.ob n o q
      rw [ha] at hb; cases hb
      rw [q] at ht
      have e : t = "list" := by cases o <;> (cases ht; rfl)
      subst e
      obtain ⟨vs, h1, _⟩ : ∃ vs, SqL X.K H a vs ∧ True := by
        cases o with
        | lst ds => obtain ⟨vs, h1, _⟩ := rr.sql (.inl rfl); exact ⟨vs, h1, trivial⟩
        | rol ds => obtain ⟨vs, h1, _⟩ := rr.sql (.inr rfl); exact ⟨vs, h1, trivial⟩
      exact tyV_is I r (.inl ⟨rfl, vs, h1⟩)
  | glb n =>
    cases n with
    | zero =>
      cases ht
      obtain ⟨a, rfl, p⟩ := glb0 G hd
      obtain ⟨⟨es, n, hl, _⟩, _⟩ := p
      cases r
      refine ⟨⟨_, I.kIn a _ hl, rfl⟩, fun b e => ?_⟩
      cases e
      exact ⟨_, I.kIn _ _ hl, rfl⟩
    | succ n => cases ht
  | non => cases ht; simp at h
  | bl _ => cases ht; simp at h
  | int _ => cases ht; simp at h
  | tup _ => cases ht; simp at h
variable {o : Expr} {fo : SE} {name : Str} {apos cpos : Pos} {id : String} {fm : D → List D → Store → Res D}
theorem q_meth (G : GOk X.K X.w g) (hT : T = "str" ∨ T = "list" ∨ T = "dict") (pa : PlainAttrs T) (slot : Slot T name id) (hty : typeOf (.builtin id) = pure (.type "method_descriptor")) (hm : MtD X g id fm) (ho : PEq X g W cf o fo) (ha : PAq X g W cf (e :: es) F)
    (hbase : attributeBase o name X.env (eval o X.env) = eval o X.env)
    (hfew : ((backTo cpos (starEach (e :: es) X.env)).all (fun x => !x.1) && (backToKw cpos (keywordEach [] X.env)).all (fun x => x.1.isSome)
      && decide ((e :: es).length + ([] : List Keyword).length + (if ([] : List Keyword).isEmpty then 0 else 1) < 30)) = true)
    (hline : (apos.endLine == cpos.line) = true) (hs : starEach (e :: es) X.env = (false, eval e X.env) :: starEach es X.env) (hplain : (backTo cpos (starEach es X.env)).any (·.1) = false) :
    PEq X g W cf (.Call (.Attribute o name apos) (e :: es) [] cpos) (mMeth T fm fo F) := by
  obtain ⟨r, hmr, hmf⟩ := hm
  refine ⟨fun pins s σ H Q I ⟨ρ, μ, S, er, sr, q⟩ => ?_⟩
  refine wpAny_Call_method_late hbase hfew hline rfl (thn (ho.run pins s σ H _ I ⟨ρ, μ, S, er, sr, Post.bind (R := RV X.K g) q⟩) fun v s1 ⟨x, H1, I1, r1, μ1, d, S1, _, x1, sr1, rx, p1⟩ => ?_)
  by_cases ht : typeD S1 d = some T
  · rw [if_pos ht] at p1
    obtain ⟨h1, h2⟩ := recv_ok I1 G sr1 rx r1 ht hT
    refine ⟨T, id, pa, slot, hty, h1, h2, ?_⟩
    have hA := ha.run cpos pins s1 σ H1 _ I1 ⟨ρ, μ1, S1, er.ext x1, sr1, Post.bind (R := RVs X.K g) p1⟩
    rw [hs] at hA ⊢
    refine Calls.callWith_builtin (by show (false || (backTo cpos (starEach es X.env)).any (·.1)) = false; rw [hplain] <;> rfl) (Calls.evalArgs_plain ?_)
    exact thn hA fun us s2 ⟨vs, H2, I2, r2, μ2, ds, S2, _, x2, sr2, rs, p2⟩ => hmr pins s2 σ H2 x vs v us Q I2 r1 r2 (hmf W σ H2 μ2 S2 d ds x vs Q sr2 (x2 d x rx) rs p2)
  · rw [if_neg ht] at p1; exact p1.elim
theorem q_meth0 (G : GOk X.K X.w g) (hT : T = "str" ∨ T = "list" ∨ T = "dict") (pa : PlainAttrs T) (slot : Slot T name id) (hty : typeOf (.builtin id) = pure (.type "method_descriptor")) (hm : MtD X g id fm) (ho : PEq X g W cf o fo)
    (hbase : attributeBase o name X.env (eval o X.env) = eval o X.env) (hline : (apos.endLine == cpos.line) = true) :
    PEq X g W cf (.Call (.Attribute o name apos) [] [] cpos) (mMeth T fm fo mNil) := by
  obtain ⟨r, hmr, hmf⟩ := hm
  refine ⟨fun pins s σ H Q I ⟨ρ, μ, S, er, sr, q⟩ => ?_⟩
  refine wpAny_Call_method0_late hbase hline (thn (ho.run pins s σ H _ I ⟨ρ, μ, S, er, sr, Post.bind (R := RV X.K g) q⟩) fun v s1 ⟨x, H1, I1, r1, μ1, d, S1, _, x1, sr1, rx, p1⟩ => ?_)
  by_cases ht : typeD S1 d = some T
  · rw [if_pos ht] at p1
    obtain ⟨h1, h2⟩ := recv_ok I1 G sr1 rx r1 ht hT
    exact ⟨T, id, pa, slot, hty, h1, h2, Calls.callWith_builtin rfl (PySem.evalArgs_none (hmr pins s1 σ H1 x [] v [] Q I1 r1 .nil (hmf W σ H1 μ1 S1 d [] x [] Q sr1 rx rfl p1)))⟩
  · rw [if_neg ht] at p1; exact p1.elim

theorem m_append : MtD X g "list.append" dAppend := by
  refine ⟨_, mt_append, fun W σ H μ S d ds x xs Q sr hd hds p => ?_⟩
  cases d with
  | ref n =>
    match ds, hds, p with
    | [d'], hds, p =>
      simp only [dAppend] at p
      cases q : S[n]? with
      | none => rw [q] at p; exact p.elim
      | some o =>
        cases o with
        | rol _ => rw [q] at p; exact p.elim
        | lst es =>
          rw [q] at p
          simp only at p
          by_cases hl : es.length < SL
          · rw [if_pos hl] at p
            obtain ⟨y, rfl, hy⟩ := isVs1 hds
            obtain ⟨a, vs, rfl, ha, h1, h2⟩ := sr.lst q hd
            exact ⟨a, vs, y, rfl, rfl, h1, by rw [h2.length]; exact hl, p.ok' (ext_put h1) (sr.put q ha h1 (h2.append ⟨y, [], rfl, hy, rfl⟩)) rfl⟩
          · rw [if_neg hl] at p; exact p.elim
    | [], _, p => exact p.elim
    | _ :: _ :: _, _, p => exact p.elim
  | _ => exact p.elim
theorem join_imp {W : WX} {σ : St} {H : Hp} {μ : List Addr} {S : Store} {a : List Nat} {ds : List D} {Q : VK} {vs : List V} (sr : SR X.K g.G H μ S) (hv : IsVs X.K g.G H μ ds vs) (p : Post X.K g W σ H μ (RV X.K g) (joinGo a ds S) Q) :
    ∃ ys : List Str, vs = ys.map V.str ∧ (ys.map (·.length)).sum + ys.length * (mkS a).length ≤ 16777216 ∧ Q (.str (Txt.join (mkS a) ys)) H := by
  unfold joinGo at p
  cases q : allStrs ds with
  | none => rw [q] at p; exact p.elim
  | some ys =>
    rw [q] at p
    simp only at p
    by_cases hl : (ys.map (·.length)).sum + ys.length * a.length ≤ SL
    · rw [if_pos hl] at p
      refine ⟨ys.map mkS, strs_v hv q, ?_, p.ok sr (by show _ = V.str (mkS (joinT a ys)); unfold joinT; rw [← str_of_list])⟩
      rw [List.map_map, mkS_len, List.length_map]
      have e : ((fun x : Str => x.length) ∘ mkS) = fun l : List Nat => l.length := funext fun l => mkS_len l
      rw [e]
      exact hl
    · rw [if_neg hl] at p; exact p.elim
theorem m_join : MtD X g "str.join" dJoin := by
  refine ⟨_, mt_join, fun W σ H μ S d ds x xs Q sr hd hds p => ?_⟩
  cases d with
  | str a =>
    cases hd
    match ds, hds, p with
    | [.ref n], hds, p =>
      simp only [dJoin] at p
      cases q : lstOf S n with
      | none => rw [q] at p; exact p.elim
      | some es =>
        rw [q] at p
        obtain ⟨y, rfl, hy⟩ := isVs1 hds
        obtain ⟨b, vs, rfl, h1, h2⟩ := sr.lstOf q hy
        obtain ⟨ys, rfl, h3, h4⟩ := join_imp sr h2 p
        exact ⟨_, b, ys, rfl, rfl, .inl h1, h3, h4⟩
    | [.tup es], hds, p =>
      obtain ⟨y, rfl, hy⟩ := isVs1 hds
      obtain ⟨b, vs, rfl, h1, h2⟩ := isV_tup hy
      obtain ⟨ys, rfl, h3, h4⟩ := join_imp sr h2 p
      exact ⟨_, b, ys, rfl, rfl, .inr h1, h3, h4⟩
    | [], _, p => exact p.elim
    | [.non], _, p => exact p.elim
    | [.bl _], _, p => exact p.elim
    | [.int _], _, p => exact p.elim
    | [.str _], _, p => exact p.elim
    | [.glb _], _, p => exact p.elim
    | z :: _ :: _, _, p => cases z <;> exact p.elim
  | _ => exact p.elim
theorem m_starts : MtD X g "str.startswith" dStarts := by
  refine ⟨_, mt_startswith3, fun W σ H μ S d ds x xs Q sr hd hds p => ?_⟩
  cases d with
  | str a =>
    cases hd
    match ds, hds, p with
    | [.str b, .int i], hds, p =>
      obtain ⟨v, w, rfl, h1, h2⟩ := isVs2 hds
      exact ⟨_, mkS b, i, rfl, by rw [show v = _ from h1, show w = _ from h2], p.ok sr rfl⟩
    | [], _, p => exact p.elim
    | [z], _, p => cases z <;> exact p.elim
    | .str _ :: .non :: [], _, p => exact p.elim
    | .str _ :: .bl _ :: [], _, p => exact p.elim
    | .str _ :: .str _ :: [], _, p => exact p.elim
    | .str _ :: .tup _ :: [], _, p => exact p.elim
    | .str _ :: .ref _ :: [], _, p => exact p.elim
    | .str _ :: .glb _ :: [], _, p => exact p.elim
    | .non :: _ :: [], _, p => exact p.elim
    | .bl _ :: _ :: [], _, p => exact p.elim
    | .int _ :: _ :: [], _, p => exact p.elim
    | .tup _ :: _ :: [], _, p => exact p.elim
    | .ref _ :: _ :: [], _, p => exact p.elim
    | .glb _ :: _ :: [], _, p => exact p.elim
    | a :: b :: _ :: _, _, p => cases a <;> cases b <;> exact p.elim
  | _ => exact p.elim
theorem mt_partsget (G : GOk X.K X.w g) : MtR X "dict.get" (fun x xs H Q => ∃ a z y, x = .ref a ∧ xs = [.str z, y] ∧ PartsAt X.K X.w a ∧ Q ((lookS partsL z).elim y V.int) H) := by
  intro pins s σ H x xs v us Q I rx rs h
  obtain ⟨a, z, y, rfl, rfl, p, q⟩ := h
  cases rx
  cases rs with
  | cons r1 rs =>
    cases rs with
    | cons r2 rs =>
      cases rs
      obtain ⟨t, rfl⟩ := r1
      obtain ⟨r, h1, h2⟩ := parts_nsIn p z
      obtain ⟨es, n, kd⟩ := kdict p
      have mo := PySem.W.mapOf_K (prog := X.prog) (w := X.w) I.kIn kd.at_ kd.lit
      have fe := PySem.W.find_K kd.at_ h1
      refine call_meetsIn PySem.F.slot_dict_get mo.typeIs PySem.F.entry_dict_get (PySem.F.args_dict_get_3 _ _ _) (meets_dict_get_default (strKind X.prog X.w) a (PySem.strKind_is X.prog X.w z t) kd.low _) ⟨_, mo, ?_⟩
      cases hl : lookS partsL z with
      | none =>
        rw [hl] at q h2
        refine ⟨y, H, I.tok _, ?_, q⟩
        rw [fe, h2]
        exact r2
      | some i =>
        rw [hl] at q h2
        obtain ⟨u, h2⟩ := h2
        refine ⟨.int i, H, I.tok _, ?_, q⟩
        rw [fe, h2]
        exact ⟨u, rfl⟩
theorem m_get (G : GOk X.K X.w g) : MtD X g "dict.get" dGet := by
  refine ⟨_, mt_partsget (g := g) G, fun W σ H μ S d ds x xs Q sr hd hds p => ?_⟩
  cases d with
  | glb n =>
    cases n with
    | zero =>
      obtain ⟨a, rfl, pa⟩ := glb0 G hd
      match ds, hds, p with
      | [.str s, d'], hds, p =>
        obtain ⟨v, w, rfl, h1, h2⟩ := isVs2 hds
        simp only [dGet] at p
        refine ⟨a, mkS s, w, rfl, by rw [show v = _ from h1], pa, ?_⟩
        rw [parts_look]
        cases q : partsD.lookup s with
        | none => rw [q] at p; exact p.ok sr h2
        | some i => rw [q] at p; exact p.ok sr rfl
      | [], _, p => exact p.elim
      | [z], _, p => cases z <;> exact p.elim
      | .non :: _ :: [], _, p => exact p.elim
      | .bl _ :: _ :: [], _, p => exact p.elim
      | .int _ :: _ :: [], _, p => exact p.elim
      | .tup _ :: _ :: [], _, p => exact p.elim
      | .ref _ :: _ :: [], _, p => exact p.elim
      | .glb _ :: _ :: [], _, p => exact p.elim
      | a :: b :: _ :: _, _, p => cases a <;> exact p.elim
    | succ n => exact p.elim
  | _ => exact p.elim
end
end Q
namespace Q
open PySem L2
section
variable {K : PySem.W.Frag} {g : Sig} {H H1 : Hp} {μ μ1 : List Addr} {S S0 S1 : Store}
/-- what stands for something of a store hangs on that store alone -/
theorem isV_closed : ∀ (d : D) (v : V), IsV K g.G H μ d v → closed μ.length d = true := by
  intro d
  refine D.rec (motive_1 := fun d => ∀ v, IsV K g.G H μ d v → closed μ.length d = true) (motive_2 := fun ds => ∀ vs, IsVs K g.G H μ ds vs → closeds μ.length ds = true) ?_ ?_ ?_ ?_ ?_ ?_ ?_ ?_ ?_ d
  · intro v h; rfl
  · intro b v h; rfl
  · intro i v h; rfl
  · intro s v h; rfl
  · intro ds ih v h
    obtain ⟨a, vs, e, h1, h2⟩ := h
    simp only [closed]
    exact ih vs h2
  · intro n v h
    obtain ⟨a, e, h1⟩ := h
    simp only [closed, decide_eq_true_eq]
    exact (List.getElem?_eq_some_iff.mp h1).1
  · intro n v h; rfl
  · intro vs h; rfl
  · intro d ds ih1 ih2 vs h
    obtain ⟨v, r, e, h1, h2⟩ := h
    simp only [closeds, ih1 v h1, ih2 r h2, Bool.and_self]
theorem isVs_closed : ∀ (ds : List D) (vs : List V), IsVs K g.G H μ ds vs → closeds μ.length ds = true
  | [], _, _ => rfl
  | d :: ds, vs, h => by
    obtain ⟨v, r, e, h1, h2⟩ := h
    simp only [closeds, isV_closed d v h1, isVs_closed ds r h2, Bool.and_self]
/-- the places that go on -/
theorem isV_cut {n : Nat} {ν : List Addr} (hν : ∀ i, i < n → ν[i]? = μ[i]?) : ∀ (d : D) (v : V), closed n d = true → IsV K g.G H μ d v → IsV K g.G H ν d v := by
  intro d
  refine D.rec (motive_1 := fun d => ∀ v, closed n d = true → IsV K g.G H μ d v → IsV K g.G H ν d v) (motive_2 := fun ds => ∀ vs, closeds n ds = true → IsVs K g.G H μ ds vs → IsVs K g.G H ν ds vs) ?_ ?_ ?_ ?_ ?_ ?_ ?_ ?_ ?_ d
  · intro v _ h; exact h
  · intro b v _ h; exact h
  · intro i v _ h; exact h
  · intro s v _ h; exact h
  · intro ds ih v c h
    obtain ⟨a, vs, e, h1, h2⟩ := h
    simp only [closed] at c
    exact ⟨a, vs, e, h1, ih vs c h2⟩
  · intro k v c h
    obtain ⟨a, e, h1⟩ := h
    simp only [closed, decide_eq_true_eq] at c
    exact ⟨a, e, by rw [hν k c]; exact h1⟩
  · intro k v _ h; exact h
  · intro vs _ h; exact h
  · intro d ds ih1 ih2 vs c h
    obtain ⟨v, r, e, h1, h2⟩ := h
    simp only [closeds, Bool.and_eq_true] at c
    exact ⟨v, r, e, ih1 v c.1 h1, ih2 r c.2 h2⟩
theorem isVs_cut {n : Nat} {ν : List Addr} (hν : ∀ i, i < n → ν[i]? = μ[i]?) : ∀ (ds : List D) (vs : List V), closeds n ds = true → IsVs K g.G H μ ds vs → IsVs K g.G H ν ds vs
  | [], _, _, h => h
  | d :: ds, vs, c, h => by
    obtain ⟨v, r, e, h1, h2⟩ := h
    simp only [closeds, Bool.and_eq_true] at c
    exact ⟨v, r, e, isV_cut hν d v c.1 h1, isVs_cut hν ds r c.2 h2⟩
theorem obR_cut {n : Nat} {ν : List Addr} (hν : ∀ i, i < n → ν[i]? = μ[i]?) {o : Ob} {a : Addr} (c : closedOb n o = true) (h : ObR K g.G H μ o a) : ObR K g.G H ν o a := by
  cases o with
  | lst ds => obtain ⟨vs, h1, h2⟩ := h; exact ⟨vs, h1, isVs_cut hν ds vs c h2⟩
  | rol ds => obtain ⟨vs, h1, h2⟩ := h; exact ⟨vs, h1, isVs_cut hν ds vs c h2⟩
theorem obR_closed {o : Ob} {a : Addr} (h : ObR K g.G H μ o a) : closedOb μ.length o = true := by
  cases o with
  | lst ds => obtain ⟨vs, h1, h2⟩ := h; exact isVs_closed ds vs h2
  | rol ds => obtain ⟨vs, h1, h2⟩ := h; exact isVs_closed ds vs h2
theorem oldOk_at {n : Nat} : ∀ {A B : Store}, oldOk n A B = true → A.length ≤ B.length ∧ ∀ i b, i < A.length → B[i]? = some b → A[i]? = some b ∨ closedOb n b = true
  | [], B, _ => ⟨Nat.zero_le _, fun i b h _ => by simp at h⟩
  | a :: A, b :: B, h => by
    simp only [oldOk, Bool.and_eq_true, Bool.or_eq_true, decide_eq_true_eq] at h
    obtain ⟨h1, h2⟩ := oldOk_at h.2
    refine ⟨by simp; exact h1, fun i c hi e => ?_⟩
    cases i with
    | zero =>
      simp at e
      subst e
      rcases h.1 with h | h
      · subst h; exact .inl rfl
      · exact .inr h
    | succ i =>
      simp only [List.getElem?_cons_succ] at e ⊢
      exact h2 i c (by simpa using hi) e
  | _ :: _, [], h => by simp [oldOk] at h
/-- the old part of the store -/
theorem old_ob (sr0 : SR K g.G H μ S0) (sr1 : SR K g.G H1 μ1 S1) (ok : oldOk S0.length S0 S1 = true) {ν : List Addr} (hν : ∀ i, i < S0.length → ν[i]? = μ1[i]?) {i : Nat} {o : Ob} (hi : i < S0.length) (e : S1[i]? = some o) :
    ∃ a, ν[i]? = some a ∧ ObR K g.G H1 ν o a := by
  obtain ⟨a, h1, h2⟩ := sr1.ob i o e
  refine ⟨a, by rw [hν i hi]; exact h1, ?_⟩
  refine obR_cut hν ?_ h2
  rcases (oldOk_at ok).2 i o hi e with q | q
  · obtain ⟨b, _, r⟩ := sr0.ob i o q
    have := obR_closed r
    rw [sr0.len] at this
    exact this
  · exact q
theorem ext_cut (sr0 : SR K g.G H μ S0) (x : Ext K g.G H μ H1 μ1) {ν : List Addr} (hν : ∀ i, i < S0.length → ν[i]? = μ1[i]?) : Ext K g.G H μ H1 ν := fun d v h => by
  have c := isV_closed d v h
  rw [sr0.len] at c
  exact isV_cut hν d v c (x d v h)
theorem sr_take (sr0 : SR K g.G H μ S0) (sr1 : SR K g.G H1 μ1 S1) (ok : oldOk S0.length S0 S1 = true) : SR K g.G H1 (μ1.take S0.length) (S1.take S0.length) := by
  have hν : ∀ i, i < S0.length → (μ1.take S0.length)[i]? = μ1[i]? := fun i hi => List.getElem?_take_of_lt hi
  have cut : ∀ {i : Nat} {o : Ob}, (S1.take S0.length)[i]? = some o → i < S0.length ∧ S1[i]? = some o := fun {i o} e => by
    by_cases hi : i < S0.length
    · rw [List.getElem?_take_of_lt hi] at e; exact ⟨hi, e⟩
    · rw [List.getElem?_eq_none (by rw [List.length_take]; omega)] at e; cases e
  refine ⟨by rw [List.length_take, List.length_take, sr1.len], fun i o e => ?_, fun i j a ds es e1 e2 p1 p2 => ?_⟩
  · obtain ⟨hi, e⟩ := cut e
    exact old_ob sr0 sr1 ok hν hi e
  · obtain ⟨hi, e1⟩ := cut e1
    obtain ⟨hj, e2⟩ := cut e2
    rw [hν i hi] at p1
    rw [hν j hj] at p2
    exact sr1.inj i j a ds es e1 e2 p1 p2
theorem sr_one (sr0 : SR K g.G H μ S0) (sr1 : SR K g.G H1 μ1 S1) (ok : oldOk S0.length S0 S1 = true) {k : Nat} {o : Ob} {a : Addr} (hk : S0.length ≤ k) (e : S1[k]? = some o) (ha : μ1[k]? = some a) (c : closedOb S0.length o = true) :
    SR K g.G H1 (μ1.take S0.length ++ [a]) (S1.take S0.length ++ [o]) := by
  have hle := (oldOk_at ok).1
  have l1 : (S1.take S0.length).length = S0.length := by rw [List.length_take]; omega
  have l2 : (μ1.take S0.length).length = S0.length := by rw [List.length_take, sr1.len]; omega
  have hν : ∀ i, i < S0.length → (μ1.take S0.length ++ [a])[i]? = μ1[i]? := fun i hi => by
    rw [List.getElem?_append_left (by rw [l2]; exact hi), List.getElem?_take_of_lt hi]
  have last : (μ1.take S0.length ++ [a])[S0.length]? = some a := by
    rw [List.getElem?_append_right (by rw [l2]; exact Nat.le_refl _), l2]; simp
  have cut : ∀ {i : Nat} {u : Ob}, (S1.take S0.length ++ [o])[i]? = some u → (i < S0.length ∧ S1[i]? = some u) ∨ (i = S0.length ∧ u = o) := fun {i u} e => by
    by_cases hi : i < S0.length
    · rw [List.getElem?_append_left (by rw [l1]; exact hi), List.getElem?_take_of_lt hi] at e; exact .inl ⟨hi, e⟩
    · rw [List.getElem?_append_right (by rw [l1]; omega), l1] at e
      have h0 : i - S0.length = 0 := by
        have := (List.getElem?_eq_some_iff.mp e).1
        simp at this; omega
      rw [h0] at e
      simp at e
      exact .inr ⟨by omega, e.symm⟩
  refine ⟨by simp [l1, l2], fun i u e => ?_, fun i j b ds es e1 e2 p1 p2 => ?_⟩
  · rcases cut e with ⟨hi, e⟩ | ⟨rfl, rfl⟩
    · exact old_ob sr0 sr1 ok hν hi e
    · obtain ⟨b, h1, h2⟩ := sr1.ob k u ‹_›
      rw [ha] at h1; cases h1
      exact ⟨a, last, obR_cut hν c h2⟩
  · have one : ∀ {i : Nat} {ds : List D}, (S1.take S0.length ++ [o])[i]? = some (.lst ds) → (μ1.take S0.length ++ [a])[i]? = some b → ∃ m, (m = i ∧ i < S0.length ∨ m = k ∧ i = S0.length) ∧ S1[m]? = some (.lst ds) ∧ μ1[m]? = some b := fun {i ds} e p => by
      rcases cut e with ⟨hi, e⟩ | ⟨rfl, e'⟩
      · exact ⟨i, .inl ⟨rfl, hi⟩, e, by rw [← hν i hi]; exact p⟩
      · rw [last] at p; cases p
        exact ⟨k, .inr ⟨rfl, rfl⟩, by rw [e']; assumption, ha⟩
    obtain ⟨m1, c1, q1, r1⟩ := one e1 p1
    obtain ⟨m2, c2, q2, r2⟩ := one e2 p2
    have := sr1.inj m1 m2 b ds es q1 q2 r1 r2
    omega
/-- a call's end -/
theorem tidy_post {W : WX} {σ : St} {d : D} {v : V} {Q : VK} (sr0 : SR K g.G H μ S0) (x : Ext K g.G H μ H1 μ1) (sr1 : SR K g.G H1 μ1 S1) (hv : IsV K g.G H1 μ1 d v) (p : Post K g W σ H μ (RV K g) (tidy S0 d S1) Q) : Q v H1 := by
  have hν : ∀ i, i < S0.length → (μ1.take S0.length)[i]? = μ1[i]? := fun i hi => List.getElem?_take_of_lt hi
  unfold tidy at p
  by_cases ok : oldOk S0.length S0 S1 = true
  · rw [if_pos ok] at p
    by_cases c : closed S0.length d = true
    · rw [if_pos c] at p
      exact p.ok' (ext_cut sr0 x hν) (sr_take sr0 sr1 ok) (isV_cut hν d v c hv)
    · rw [if_neg c] at p
      have plain : Post K g W σ H μ (RV K g) (.ok d S1) Q → Q v H1 := fun p => p.ok' x sr1 hv
      cases d with
      | ref k =>
        simp only at p
        cases e : S1[k]? with
        | none => rw [e] at p; exact plain p
        | some o =>
          rw [e] at p
          simp only at p
          by_cases co : closedOb S0.length o = true
          · rw [if_pos co] at p
            obtain ⟨a, rfl, ha⟩ := isV_ref hv
            have hk : S0.length ≤ k := by
              simp only [closed, decide_eq_true_eq] at c
              omega
            have hle := (oldOk_at ok).1
            have l2 : (μ1.take S0.length).length = S0.length := by rw [List.length_take, sr1.len]; omega
            have hν' : ∀ i, i < S0.length → (μ1.take S0.length ++ [a])[i]? = μ1[i]? := fun i hi => by
              rw [List.getElem?_append_left (by rw [l2]; exact hi), List.getElem?_take_of_lt hi]
            refine p.ok' (ext_cut sr0 x hν') (sr_one sr0 sr1 ok hk e ha co) ⟨a, rfl, ?_⟩
            rw [List.getElem?_append_right (by rw [l2]; exact Nat.le_refl _), l2]; simp
          · rw [if_neg co] at p; exact plain p
      | _ => exact plain p
  · rw [if_neg ok] at p
    exact p.ok' x sr1 hv
theorem tidyX_post {W : WX} {σ : St} {c : Nat} {cls : Value} {dx : Option Addr} {Q : VK} (sr0 : SR K g.G H μ S0) (x : Ext K g.G H μ H1 μ1) (sr1 : SR K g.G H1 μ1 S1) (hc : g.C c = some cls) (p : Post K g W σ H μ (RV K g) (tidyX S0 c S1) Q) : W cls dx σ H1 := by
  have hν : ∀ i, i < S0.length → (μ1.take S0.length)[i]? = μ1[i]? := fun i hi => List.getElem?_take_of_lt hi
  unfold tidyX at p
  by_cases ok : oldOk S0.length S0 S1 = true
  · rw [if_pos ok] at p
    exact p H1 _ cls dx (ext_cut sr0 x hν) (sr_take sr0 sr1 ok) hc
  · rw [if_neg ok] at p
    exact p H1 μ1 cls dx x sr1 hc
end
end Q
namespace Q
open PySem L2
/-- what is wanted of a statement's end -/
def PostS (K : PySem.W.Frag) (g : Sig) (W : WX) (H : Hp) (μ : List Addr) (r : RS) (D : Ends) : Prop :=
  match r with
  | .nxt ρ S => ∀ σ' H' μ', Ext K g.G H μ H' μ' → SR K g.G H' μ' S → ER K g.G H' μ' ρ σ' → D.nx σ' H'
  | .ret d S => ∀ H' μ' v, Ext K g.G H μ H' μ' → SR K g.G H' μ' S → IsV K g.G H' μ' d v → D.rt v H'
  | .brk ρ S => ∀ σ' H' μ', Ext K g.G H μ H' μ' → SR K g.G H' μ' S → ER K g.G H' μ' ρ σ' → D.bk σ' H'
  | .cnt ρ S => ∀ σ' H' μ', Ext K g.G H μ H' μ' → SR K g.G H' μ' S → ER K g.G H' μ' ρ σ' → D.ct σ' H'
  | .exc c ρ S => ∀ σ' H' μ' cls d, Ext K g.G H μ H' μ' → SR K g.G H' μ' S → ER K g.G H' μ' ρ σ' → g.C c = some cls → W cls d σ' H'
  | .err => False
section
variable {K : PySem.W.Frag} {g : Sig} {W : WX} {σ : St} {H H1 : Hp} {μ μ1 : List Addr} {D D' : Ends} {r : RS}
theorem PostS.ext (e : Ext K g.G H μ H1 μ1) (h : PostS K g W H μ r D) : PostS K g W H1 μ1 r D := by
  cases r with
  | nxt ρ S => exact fun σ' H' μ' x => h σ' H' μ' (e.trans x)
  | ret d S => exact fun H' μ' v x => h H' μ' v (e.trans x)
  | brk ρ S => exact fun σ' H' μ' x => h σ' H' μ' (e.trans x)
  | cnt ρ S => exact fun σ' H' μ' x => h σ' H' μ' (e.trans x)
  | exc c ρ S => exact fun σ' H' μ' cls d x => h σ' H' μ' cls d (e.trans x)
  | err => exact h
/-- a value, then a statement's end -/
theorem PostS.thenS {α β : Type} {R : Hp → List Addr → α → β → Prop} {a : Res α} {ρ : Env} {k : α → Store → RS} (er : ER K g.G H μ ρ σ) (h : PostS K g W H μ (a.thenS ρ k) D) :
    Post K g W σ H μ R a fun b H' => ∃ μ' x S, a = .ok x S ∧ Ext K g.G H μ H' μ' ∧ SR K g.G H' μ' S ∧ R H' μ' x b ∧ PostS K g W H' μ' (k x S) D := by
  cases a with
  | ok x S => exact fun H' μ' b e s q => ⟨μ', x, S, rfl, e, s, q, h.ext e⟩
  | exc c S => exact fun H' μ' cls d e s q => h σ H' μ' cls d e s (er.ext e) q
  | err => exact h
end
def tS (K : PySem.W.Frag) (g : Sig) (W : WX) (cf : CF) (f : SS) : TS := fun D σ H => ∃ ρ μ S, ER K g.G H μ ρ σ ∧ SR K g.G H μ S ∧ PostS K g W H μ (f cf ρ S) D
section
variable {X : Cx} {g : Sig} {W : WX} {cf : CF}
theorem PS.imp {st : Stmt} {t t' : TS} (h : PS X st t) (i : ∀ D σ H, t' D σ H → t D σ H) : PS X st t' := ⟨fun pins s σ H D I q => h.run pins s σ H D I (i D σ H q)⟩
theorem PSs.imp {st : List Stmt} {t t' : TS} (h : PSs X st t) (i : ∀ D σ H, t' D σ H → t D σ H) : PSs X st t' := ⟨fun pins s σ H D I q => h.run pins s σ H D I (i D σ H q)⟩
abbrev PSq (X : Cx) (g : Sig) (W : WX) (cf : CF) (st : Stmt) (f : SS) : Prop := PS X st (tS X.K g W cf f)
abbrev PSsq (X : Cx) (g : Sig) (W : WX) (cf : CF) (st : List Stmt) (f : SS) : Prop := PSs X st (tS X.K g W cf f)
variable {e c : Expr} {f : SE} {A : ST} {st : Stmt} {rest a b : List Stmt} {fs fr fa fb : SS} {pos pos' : Pos}
theorem qs_nil : PSsq X g W cf [] sSkip := PSs.imp pss_nil fun D σ H ⟨ρ, μ, S, er, sr, p⟩ => p σ H μ Ext.refl sr er
theorem qs_cons (h1 : PSq X g W cf st fs) (h2 : PSsq X g W cf rest fr) : PSsq X g W cf (st :: rest) (sSeq fs fr) := by
  refine PSs.imp (pss_cons h1 h2) fun D σ H ⟨ρ, μ, S, er, sr, p⟩ => ⟨ρ, μ, S, er, sr, ?_⟩
  have p : PostS X.K g W H μ ((fs cf ρ S).seq fun ρ1 S1 => fr cf ρ1 S1) D := p
  revert p
  cases fs cf ρ S with
  | nxt ρ1 S1 => exact fun p σ' H' μ' x s e => ⟨ρ1, μ', S1, e, s, p.ext x⟩
  | ret d S1 => exact fun p => p
  | brk ρ1 S1 => exact fun p => p
  | cnt ρ1 S1 => exact fun p => p
  | exc c ρ1 S1 => exact fun p => p
  | err => exact fun p => p
theorem qs_one (h1 : PSq X g W cf st fs) : PSsq X g W cf [st] fs := pss_one h1
theorem qs_pass : PSq X g W cf (.Pass pos) sSkip := PS.imp ps_pass fun D σ H ⟨ρ, μ, S, er, sr, p⟩ => p σ H μ Ext.refl sr er
theorem qs_break : PSq X g W cf (.Break pos) sBrk := PS.imp ps_break fun D σ H ⟨ρ, μ, S, er, sr, p⟩ => p σ H μ Ext.refl sr er
theorem qs_cont : PSq X g W cf (.Continue pos) sCnt := PS.imp ps_continue fun D σ H ⟨ρ, μ, S, er, sr, p⟩ => p σ H μ Ext.refl sr er
theorem qs_expr (he : PEq X g W cf e f) (hs : swapsWith e none pos.line X.env = pure false) : PSq X g W cf (.Expr e pos) (sExpr f) := by
  refine PS.imp (ps_expr he hs) fun D σ H ⟨ρ, μ, S, er, sr, p⟩ => ⟨ρ, μ, S, er, sr, ?_⟩
  exact (PostS.thenS (R := RV X.K g) er p).mono fun v H1 ⟨μ1, d, S1, _, x1, sr1, rx, p1⟩ => p1 σ H1 μ1 Ext.refl sr1 (er.ext x1)
theorem qs_ret (he : PEq X g W cf e f) : PSq X g W cf (.Return (some e) pos) (sRet f) := by
  refine PS.imp (ps_ret he) fun D σ H ⟨ρ, μ, S, er, sr, p⟩ => ⟨ρ, μ, S, er, sr, ?_⟩
  exact (PostS.thenS (R := RV X.K g) er p).mono fun v H1 ⟨μ1, d, S1, _, x1, sr1, rx, p1⟩ => p1 H1 μ1 v Ext.refl sr1 rx
theorem qs_if (hc : PTq X g W cf c A) (ha : PSsq X g W cf a fa) (hb : PSsq X g W cf b fb) : PSq X g W cf (.If c a b pos) (sIf A fa fb) := by
  refine PS.imp (ps_if hc ha hb) fun D σ H ⟨ρ, μ, S, er, sr, p⟩ => ⟨ρ, μ, S, er, sr, ?_⟩
  refine (PostS.thenS (R := REq) er p).mono fun k H1 ⟨μ1, k', S1, _, x1, sr1, rx, p1⟩ => ?_
  cases rx
  cases k with
  | true => rw [if_pos rfl]; exact ⟨ρ, μ1, S1, er.ext x1, sr1, p1⟩
  | false => rw [if_neg Bool.false_ne_true]; exact ⟨ρ, μ1, S1, er.ext x1, sr1, p1⟩

/-! ### targets -/
def tG (K : PySem.W.Frag) (g : Sig) (is : List Nat) (G : TGT) : TG := fun v σ H Q => ∃ d ρ μ S, SR K g.G H μ S ∧ ER K g.G H μ ρ σ ∧ IsV K g.G H μ d v ∧ match G d ρ S with
  | some ρ1 => ∀ σ', ER K g.G H μ ρ1 σ' → (∀ vs : List Nat, (∀ i ∈ is, i ∈ vs) → wipe σ' vs = wipe σ vs) → Q σ' H
  | none => False
theorem PG.imp {e : Expr} {t t' : TG} (h : PG X e t) (i : ∀ v σ H Q, t' v σ H Q → t v σ H Q) : PG X e t' := ⟨fun pins s σ H v u Q I r q => h.run pins s σ H v u Q I r (i v σ H Q q)⟩
/-- a target that does G, at the slots is -/
abbrev PGq (X : Cx) (g : Sig) (target : Expr) (is : List Nat) (G : TGT) : Prop := PG X target (tG X.K g is G)
theorem wipe_set {σ : L2.St} {i : Nat} {x : Option V} : ∀ {vs : List Nat}, i ∈ vs → wipe (σ.set i x) vs = wipe σ vs
  | v :: vs, h => by
    unfold wipe
    by_cases e : i = v
    · subst e
      by_cases h' : i ∈ vs
      · rw [wipe_set h']
      · -- the place is set anew behind
        have key : ∀ vs : List Nat, ∀ σ : L2.St, (wipe (σ.set i x) vs).set i none = (wipe σ vs).set i none := by
          intro vs
          induction vs with
          | nil => intro σ; simp [wipe]
          | cons w vs ih =>
            intro σ
            unfold wipe
            by_cases ew : w = i
            · subst ew; rw [ih]
            · rw [List.set_comm _ _ ew, ih, List.set_comm _ _ ew]
        exact key vs σ
    · rcases List.mem_cons.mp h with h | h
      · exact absurd h e
      · rw [wipe_set h]
theorem qg_name {i : Nat} {x : Str} (hN : X.N.Nodup) (hi : X.N[i]? = some x) (hx : Loc X.env.scope x) (hf : X.fn x = true ∨ X.env.scope.names.lookup x = some .local) : PGq X g (.Name x pos) [i] (gNm i) := by
  refine PG.imp (pg_name hN hi hx hf) fun v σ H Q ⟨d, ρ, μ, S, sr, er, hv, p⟩ => ?_
  exact p _ (er.set i hv) fun vs h => wipe_set (h i (by simp))
def tGs (K : PySem.W.Frag) (g : Sig) (is : List Nat) : TGs := fun vs σ H Q => ∃ ds ρ μ, ER K g.G H μ ρ σ ∧ IsVs K g.G H μ ds vs ∧ match gTs is ds ρ with
  | some ρ1 => ∀ σ', ER K g.G H μ ρ1 σ' → (∀ ws : List Nat, (∀ i ∈ is, i ∈ ws) → wipe σ' ws = wipe σ ws) → Q σ' H
  | none => False
theorem PGs.imp {es : List Expr} {t t' : TGs} (h : PGs X es t) (i : ∀ v σ H Q, t' v σ H Q → t v σ H Q) : PGs X es t' := ⟨fun pins s σ H v u Q I r q => h.run pins s σ H v u Q I r (i v σ H Q q)⟩
/-- plain names, one after another -/
structure PGsq (X : Cx) (g : Sig) (ts : List Expr) (is : List Nat) : Prop where
  run : PGs X ts (tGs X.K g is)
  len : (assignEach ts X.env).length = is.length
  star : (assignEach ts X.env).findIdx? (·.1) = none
theorem qgs_nil : PGsq X g [] [] := ⟨PGs.imp pgs_nil fun vs σ H Q ⟨ds, ρ, μ, er, hv, p⟩ => by
  cases ds with
  | nil =>
    have e : vs = [] := hv
    subst e
    exact ⟨rfl, p σ er fun _ _ => rfl⟩
  | cons d ds => exact p.elim, rfl, rfl⟩
theorem qgs_cons {i : Nat} {x : Str} {es : List Expr} {is : List Nat} (hN : X.N.Nodup) (hi : X.N[i]? = some x) (hx : Loc X.env.scope x) (hf : X.fn x = true ∨ X.env.scope.names.lookup x = some .local) (h : PGsq X g es is) : PGsq X g (.Name x pos :: es) (i :: is) := by
  refine ⟨PGs.imp (pgs_cons (pg_name (pos := pos) hN hi hx hf) h.run) fun vs σ H Q ⟨ds, ρ, μ, er, hv, p⟩ => ?_, by show (assignEach es X.env).length + 1 = _; rw [h.len]; rfl, ?_⟩
  · cases ds with
    | nil => exact p.elim
    | cons d ds =>
      obtain ⟨v, r, rfl, hv1, hv2⟩ := hv
      refine ⟨v, r, rfl, ds, _, μ, er.set i hv1, hv2, ?_⟩
      simp only [gTs] at p
      cases q : gTs is ds (ρ.set i (some d)) with
      | none => rw [q] at p; exact p.elim
      | some ρ1 =>
        rw [q] at p
        refine fun σ' e' h' => p σ' e' fun ws hw => ?_
        rw [h' ws fun j hj => hw j (List.mem_cons_of_mem _ hj)]
        exact wipe_set (hw i (by simp))
  · show (((false, assign (.Name x pos) X.env) :: assignEach es X.env).findIdx? (·.1)) = none
    rw [List.findIdx?_cons]
    simp [h.star]
theorem gTs_len : ∀ {is : List Nat} {ds : List D} {ρ ρ1 : Env}, gTs is ds ρ = some ρ1 → ds.length = is.length
  | [], [], _, _, _ => rfl
  | i :: is, d :: ds, ρ, ρ1, h => by rw [List.length_cons, List.length_cons, gTs_len (is := is) h]
  | [], _ :: _, _, _, h => by simp [gTs] at h
  | _ :: _, [], _, _, h => by simp [gTs] at h
theorem PG.or {e : Expr} {t t' : TG} (h : PG X e t) (h' : PG X e t') : PG X e (fun v σ H Q => t v σ H Q ∨ t' v σ H Q) := ⟨fun pins s σ H v u Q I r q => q.elim (h.run pins s σ H v u Q I r) (h'.run pins s σ H v u Q I r)⟩
theorem qg_tup {es : List Expr} {is : List Nat} {k : Nat} (hc : X.calm = true) (h : PGsq X g es is) : PGq X g (.Tuple es k pos) is (gTup is) := by
  refine PG.imp (PG.or (pg_tup hc h.run h.len h.star) (pg_lst hc h.run h.len h.star)) fun v σ H Q ⟨d, ρ, μ, S, sr, er, hv, p⟩ => ?_
  cases d with
  | tup ds =>
    simp only [gTup] at p
    obtain ⟨a, vs, rfl, q1, q2⟩ := isV_tup hv
    cases q : gTs is ds ρ with
    | none => rw [q] at p; exact p.elim
    | some ρ1 =>
      exact .inl ⟨a, vs, rfl, q1, by rw [q2.length]; exact gTs_len q, ds, ρ, μ, er, q2, p⟩
  | ref n =>
    simp only [gTup] at p
    cases hn : S[n]? with
    | none => rw [hn] at p; exact p.elim
    | some o =>
      have hl : ∃ ds, lstOf S n = some ds ∧ (match gTs is ds ρ with
        | some ρ1 => ∀ σ', ER X.K g.G H μ ρ1 σ' → (∀ ws : List Nat, (∀ i ∈ is, i ∈ ws) → wipe σ' ws = wipe σ ws) → Q σ' H
        | none => False) := by
        rw [hn] at p
        cases o with
        | lst ds => exact ⟨ds, by unfold lstOf; rw [hn], p⟩
        | rol ds => exact ⟨ds, by unfold lstOf; rw [hn], p⟩
      obtain ⟨ds, h1, p⟩ := hl
      obtain ⟨a, vs, rfl, q1, q2⟩ := sr.lstOf h1 hv
      cases q : gTs is ds ρ with
      | none => rw [q] at p; exact p.elim
      | some ρ1 => exact .inr ⟨a, vs, rfl, q1, by rw [q2.length]; exact gTs_len q, ds, ρ, μ, er, q2, p⟩
  | _ => exact p.elim
theorem qs_asg {tg : Expr} {is : List Nat} {G : TGT} (he : PEq X g W cf e f) (hg : PGq X g tg is G) (hs : swapsWithSole [tg] e pos.line X.env = pure false) (hw : swappedStores [tg] e X.env = pure none)
    (h1 : (assignEach [tg] X.env).map (·.2) = [assign tg X.env]) : PSq X g W cf (.Assign [tg] e pos) (sAsg f G) := by
  refine PS.imp (ps_asg he hg hs hw h1) fun D σ H ⟨ρ, μ, S, er, sr, p⟩ => ⟨ρ, μ, S, er, sr, ?_⟩
  refine (PostS.thenS (R := RV X.K g) er p).mono fun v H1 ⟨μ1, d, S1, _, x1, sr1, rx, p1⟩ => ⟨d, ρ, μ1, S1, sr1, er.ext x1, rx, ?_⟩
  cases q : G d ρ S1 with
  | none => simp only [q] at p1; exact p1.elim
  | some ρ1 =>
    simp only [q] at p1
    exact fun σ' e' _ => p1 σ' H1 μ1 Ext.refl sr1 e'
theorem qs_set {i : Nat} {x : Str} (hN : X.N.Nodup) (hi : X.N[i]? = some x) (hx : Loc X.env.scope x) (he : PEq X g W cf e f) (hs : swapsWith e (some (.Name x pos')) pos.line X.env = pure false) (hf : X.fn x = true ∨ X.env.scope.names.lookup x = some .local) :
    PSq X g W cf (.Assign [.Name x pos'] e pos) (sAsg f (gNm i)) := by
  refine PS.imp (ps_set hN hi hx he hs hf) fun D σ H ⟨ρ, μ, S, er, sr, p⟩ => ⟨ρ, μ, S, er, sr, ?_⟩
  exact (PostS.thenS (R := RV X.K g) er p).mono fun v H1 ⟨μ1, d, S1, _, x1, sr1, rx, p1⟩ => p1 _ H1 μ1 Ext.refl sr1 ((er.ext x1).set i rx)
theorem qs_par {i j : Nat} {x y : Str} {e1 e2 : Expr} {F : SA} {px py pt : Pos} {kt k2 : Nat} {pt2 : Pos} (hc : X.calm = true) (hN : X.N.Nodup) (hi : X.N[i]? = some x) (hj : X.N[j]? = some y) (hij : i ≠ j)
    (hx : X.env.scope.names.lookup x = some .local) (hy : X.env.scope.names.lookup y = some .local) (ha : PAq X g W cf [e1, e2] F)
    (hw : swappedStores [.Tuple [.Name x px, .Name y py] kt pt] (.Tuple [e1, e2] k2 pt2) X.env = pure (some [x, y]))
    (hs : swapsWithSole [.Tuple [.Name x px, .Name y py] kt pt] (.Tuple [e1, e2] k2 pt2) pos.line X.env = pure false) :
    PSq X g W cf (.Assign [.Tuple [.Name x px, .Name y py] kt pt] (.Tuple [e1, e2] k2 pt2) pos) (sPar F [i, j]) := by
  refine PS.imp (ps_par hc hN hi hj hij hx hy ha hw hs) fun D σ H ⟨ρ, μ, S, er, sr, p⟩ => ⟨ρ, μ, S, er, sr, ?_⟩
  refine (PostS.thenS (R := RVs X.K g) er p).mono fun vs H1 ⟨μ1, ds, S1, _, x1, sr1, rx, p1⟩ => ?_
  match ds, rx, p1 with
  | [d1, d2], rx, p1 =>
    obtain ⟨v, w, rfl, h1, h2⟩ := isVs2 rx
    exact ⟨v, w, rfl, p1 _ H1 μ1 Ext.refl sr1 (((er.ext x1).set i h1).set j h2)⟩
  | [], _, p1 => exact p1.elim
  | [_], _, p1 => exact p1.elim
  | _ :: _ :: _ :: _, _, p1 => exact p1.elim
/-- x op= e -/
theorem qs_aug {i : Nat} {x : Str} {op : Operator} {fo : D → D → Store → Res D} (hN : X.N.Nodup) (hi : X.N[i]? = some x) (hx : Loc X.env.scope x) (he : PEq X g W cf e f) (ho : OpD X g (inplaceOp op) fo) (hf : X.fn x = true ∨ X.env.scope.names.lookup x = some .local) :
    PSq X g W cf (.AugAssign (.Name x pos') op e pos) (sAug i fo f) := by
  obtain ⟨r, h, hr⟩ := ho
  refine PS.imp (ps_aug (ti := r) hN hi hx he h hf) fun D σ H ⟨ρ, μ, S, er, sr, p⟩ => ?_
  unfold sAug at p
  cases q : ρ[i]? with
  | none => rw [q] at p; exact p.elim
  | some o =>
    cases o with
    | none => rw [q] at p; exact p.elim
    | some d =>
      rw [q] at p
      obtain ⟨v, h1, h2⟩ := er.2 i d q
      refine ⟨v, h1, ρ, μ, S, er, sr, ?_⟩
      refine (PostS.thenS (R := RV X.K g) er p).mono fun y H1 ⟨μ1, d1, S1, _, x1, sr1, ry, p1⟩ => ?_
      refine hr W σ H1 μ1 S1 d d1 v y _ sr1 (x1 d v h2) ry ?_
      exact (PostS.thenS (R := RV X.K g) (er.ext x1) p1).mono fun z H2 ⟨μ2, d2, S2, _, x2, sr2, rz, p2⟩ => p2 _ H2 μ2 Ext.refl sr2 (((er.ext x1).ext x2).set i rz)
/-- o[i] = e -/
def SetD (X : Cx) (g : Sig) (f : D → D → D → Store → Res Unit) : Prop :=
  ∃ t : TSet, PSet X t ∧ ∀ (W : WX) (σ : St) (H : Hp) (μ : List Addr) (S : Store) (d i e : D) (x y v : V) (Q : Hp → Prop), SR X.K g.G H μ S → IsV X.K g.G H μ d x → IsV X.K g.G H μ i y → IsV X.K g.G H μ e v →
    Post (β := Unit) X.K g W σ H μ (fun _ _ _ _ => True) (f d i e S) (fun _ H' => Q H') → t x y v H Q
theorem qs_put {o i : Expr} {fo fi : SE} {fp : D → D → D → Store → Res Unit} (he : PEq X g W cf e f) (ho : PEq X g W cf o fo) (hi : PEq X g W cf i fi) (hp : SetD X g fp)
    (ha : ∀ v, assign (.Subscript o i pos') X.env v = (do
      let ov ← holding [v] (eval o X.env)
      let iv ← holding [v, ov] (eval i X.env)
      standAt pos'
      holding [v, ov, iv] (setItem ov iv v)
      release [v, ov, iv] []))
    (hs : swapsWithSole [.Subscript o i pos'] e pos.line X.env = pure false) (hw : swappedStores [.Subscript o i pos'] e X.env = pure none)
    (h1 : (assignEach [.Subscript o i pos'] X.env).map (·.2) = [assign (.Subscript o i pos') X.env]) : PSq X g W cf (.Assign [.Subscript o i pos'] e pos) (sPut fp fo fi f) := by
  obtain ⟨t, hp1, hp2⟩ := hp
  refine PS.imp (ps_asg he (pg_sub ho hi hp1 ha) hs hw h1) fun D σ H ⟨ρ, μ, S, er, sr, p⟩ => ⟨ρ, μ, S, er, sr, ?_⟩
  refine (PostS.thenS (R := RV X.K g) er p).mono fun v H1 ⟨μ1, d1, S1, _, x1, sr1, rv, p1⟩ => ?_
  refine ⟨ρ, μ1, S1, er.ext x1, sr1, (PostS.thenS (R := RV X.K g) (er.ext x1) p1).mono fun w H2 ⟨μ2, d2, S2, _, x2, sr2, rw', p2⟩ => ?_⟩
  refine ⟨ρ, μ2, S2, (er.ext x1).ext x2, sr2, (PostS.thenS (R := RV X.K g) ((er.ext x1).ext x2) p2).mono fun z H3 ⟨μ3, d3, S3, _, x3, sr3, rz, p3⟩ => ?_⟩
  refine hp2 W σ H3 μ3 S3 d2 d3 d1 w z v _ sr3 (x3 _ _ rw') rz (x3 _ _ (x2 _ _ rv)) ?_
  exact (PostS.thenS (R := fun _ _ _ _ => True) (((er.ext x1).ext x2).ext x3) p3).mono fun _ H4 ⟨μ4, _, S4, _, x4, sr4, _, p4⟩ => p4 σ H4 μ4 Ext.refl sr4 ((((er.ext x1).ext x2).ext x3).ext x4)
theorem o_put : SetD X g dPut := by
  refine ⟨_, set_list, fun W σ H μ S d i e x y v Q sr hd hi he p => ?_⟩
  cases d with
  | ref n =>
    cases i with
    | int k =>
      simp only [dPut] at p
      cases q : S[n]? with
      | none => rw [q] at p; exact p.elim
      | some o =>
        cases o with
        | rol _ => rw [q] at p; exact p.elim
        | lst ds =>
          rw [q] at p
          simp only at p
          cases qj : ixN ds.length k with
          | none => rw [qj] at p; exact p.elim
          | some j =>
            rw [qj] at p
            obtain ⟨a, vs, rfl, ha, h1, h2⟩ := sr.lst q hd
            exact ⟨a, vs, k, j, rfl, hi, h1, by rw [h2.length]; exact qj, p.ok' (b := ()) (ext_put h1) (sr.put q ha h1 (h2.set j he)) trivial⟩
    | _ => exact p.elim
  | _ => exact p.elim
end
end Q
namespace Q
open PySem L2
/-- what a for walks, as long as it holds -/
def ItR (K : PySem.W.Frag) (g : Sig) (H : Hp) (μ : List Addr) (Jh : L2.It) (J : It) : Prop :=
  ∀ H1 μ1 S1, Ext K g.G H μ H1 μ1 → SR K g.G H1 μ1 S1 → J.holds S1 = true →
    (∀ i d, J.items[i]? = some d → Jh.go i H1 ∧ ∀ x H2, Jh.yld i H1 x H2 → ∃ μ2, Ext K g.G H1 μ1 H2 μ2 ∧ SR K g.G H2 μ2 S1 ∧ IsV K g.G H2 μ2 d x) ∧ Jh.stop J.items.length H1
def PostI (K : PySem.W.Frag) (g : Sig) (W : WX) (σ : St) (H : Hp) (μ : List Addr) (r : Res It) (R : L2.It → Hp → Prop) : Prop :=
  match r with
  | .ok J S => ∀ Jh H' μ', Ext K g.G H μ H' μ' → SR K g.G H' μ' S → ItR K g H' μ' Jh J → R Jh H'
  | .exc c S => ∀ H' μ' cls d, Ext K g.G H μ H' μ' → SR K g.G H' μ' S → g.C c = some cls → W cls d σ H'
  | .err => False
def tI (K : PySem.W.Frag) (g : Sig) (W : WX) (cf : CF) (it : SI) : TI := fun σ H R => ∃ ρ μ S, ER K g.G H μ ρ σ ∧ SR K g.G H μ S ∧ PostI K g W σ H μ (it cf ρ S) R
section
variable {X : Cx} {g : Sig} {W : WX} {cf : CF}
theorem PI.imp {tg e : Expr} {t t' : TI} (h : PI X tg e t) (i : ∀ σ H R, t' σ H R → t σ H R) : PI X tg e t' := ⟨fun pins s σ H R I q => h.run pins s σ H R I (i σ H R q)⟩
abbrev PIq (X : Cx) (g : Sig) (W : WX) (cf : CF) (tg e : Expr) (it : SI) : Prop := PI X tg e (tI X.K g W cf it)

theorem qs_for {tg iter : Expr} {body : List Stmt} {it : SI} {is : List Nat} {G : TGT} {fb : SS} {pos : Pos} (hp : PassesOwn (model X.prog X.w) X.A X.env X.xe) (hc : X.calm = true) (hi : PIq X g W cf tg iter it) (hg : PGq X g tg is G) (hb : PSsq X g W cf body fb)
    (hs : ∀ x, foldedSetIterable iter X.env x = pure x) : PSq X g W cf (.For tg iter body [] pos) (sFor it G fb) := by
  refine PS.imp (ps_for hp hc hi hg hb hs) fun D σ H ⟨ρ, μ, S, er, sr, p⟩ => ⟨ρ, μ, S, er, sr, ?_⟩
  have p : PostS X.K g W H μ ((it cf ρ S).thenS ρ fun J S1 => forGo J.holds G (fb cf) J.items ρ S1) D := p
  revert p
  cases it cf ρ S with
  | err => exact fun p => p
  | exc c S1 => exact fun p H' μ' cls d x s q => p σ H' μ' cls d x s (er.ext x) q
  | ok J S1 =>
    intro p Jh H1 μ1 x1 sr1 ir
    have p : PostS X.K g W H μ (forGo J.holds G (fb cf) J.items ρ S1) D := p
    refine ⟨fun i m σ' H' => m = J.items.length - i ∧ i ≤ J.items.length ∧ ∃ ρ' μ' S', Ext X.K g.G H1 μ1 H' μ' ∧ ER X.K g.G H' μ' ρ' σ' ∧ SR X.K g.G H' μ' S' ∧ PostS X.K g W H' μ' (forGo J.holds G (fb cf) (J.items.drop i) ρ' S') D,
      ⟨J.items.length, by simp, Nat.zero_le _, ρ, μ1, S1, Ext.refl, er.ext x1, sr1, p.ext x1⟩, ?_⟩
    rintro i m σ2 H2 ⟨rfl, hi2, ρ2, μ2, S2, x2, er2, sr2, p2⟩
    by_cases hh : J.holds S2 = true
    · obtain ⟨go, stop⟩ := ir H2 μ2 S2 x2 sr2 hh
      by_cases hlt : i < J.items.length
      · obtain ⟨d, hd⟩ : ∃ d, J.items[i]? = some d := ⟨J.items[i], by simp [hlt]⟩
        have hdrop : J.items.drop i = d :: J.items.drop (i + 1) := by
          rw [List.drop_eq_getElem_cons hlt]
          rw [List.getElem?_eq_getElem hlt] at hd
          cases hd; rfl
        obtain ⟨g1, g2⟩ := go i d hd
        rw [hdrop] at p2
        simp only [forGo, hh, if_true] at p2
        refine .inr ⟨g1, fun σ' H' => ∃ ρ' μ' S', Ext X.K g.G H1 μ1 H' μ' ∧ ER X.K g.G H' μ' ρ' σ' ∧ SR X.K g.G H' μ' S' ∧ PostS X.K g W H' μ' (forGo J.holds G (fb cf) (J.items.drop (i + 1)) ρ' S') D,
          fun σ' H' h => ⟨J.items.length - (i + 1), by omega, rfl, hlt, h⟩, fun v H3 y => ?_⟩
        obtain ⟨μ3, x3, sr3, hv⟩ := g2 v H3 y
        refine ⟨d, ρ2, μ3, S2, sr3, er2.ext x3, hv, ?_⟩
        cases q : G d ρ2 S2 with
        | none => simp only [q] at p2; exact p2.elim
        | some ρ3 =>
          simp only [q] at p2
          refine fun σ3 er3 _ => ⟨ρ3, μ3, S2, er3, sr3, ?_⟩
          revert p2
          cases fb cf ρ3 S2 with
          | nxt ρ4 S4 => exact fun p2 σ4 H4 μ4 x4 s4 e4 => ⟨ρ4, μ4, S4, (x2.trans x3).trans x4, e4, s4, (p2.ext x3).ext x4⟩
          | cnt ρ4 S4 => exact fun p2 σ4 H4 μ4 x4 s4 e4 => ⟨ρ4, μ4, S4, (x2.trans x3).trans x4, e4, s4, (p2.ext x3).ext x4⟩
          | brk ρ4 S4 => exact fun p2 σ4 H4 μ4 x4 s4 e4 => p2 σ4 H4 μ4 (x3.trans x4) s4 e4
          | ret d4 S4 => exact fun p2 H4 μ4 v4 x4 s4 e4 => p2 H4 μ4 v4 (x3.trans x4) s4 e4
          | exc c4 ρ4 S4 => exact fun p2 σ4 H4 μ4 cls dd x4 s4 e4 => p2 σ4 H4 μ4 cls dd (x3.trans x4) s4 e4
          | err => exact fun p2 => p2
      · have e : i = J.items.length := by omega
        subst e
        rw [List.drop_length] at p2
        simp only [forGo, hh, if_true] at p2
        exact .inl ⟨stop, p2 σ2 H2 μ2 Ext.refl sr2 er2⟩
    · have : PostS X.K g W H2 μ2 RS.err D := by
        cases hx : J.items.drop i with
        | nil => rw [hx] at p2; simpa only [forGo, hh, if_false, Bool.false_eq_true] using p2
        | cons _ _ => rw [hx] at p2; simpa only [forGo, hh, if_false, Bool.false_eq_true] using p2
      exact this.elim

theorem qs_while {c : Expr} {body : List Stmt} {A : ST} {fb : SS} {pos : Pos} (hp : PassesOwn (model X.prog X.w) X.A X.env X.xe) (hc : PTq X g W cf c A) (hb : PSsq X g W cf body fb) : PSq X g W cf (.While c body [] pos) (sWhile A fb) := by
  refine PS.imp (ps_while hp hc hb) fun D σ H ⟨ρ, μ, S, er, sr, p⟩ => ?_
  refine ⟨fun m σ' H' => ∃ ρ' μ' S', ER X.K g.G H' μ' ρ' σ' ∧ SR X.K g.G H' μ' S' ∧ PostS X.K g W H' μ' (whileGo (A cf) (fb cf) m ρ' S') D, ⟨WT, ρ, μ, S, er, sr, p⟩, ?_⟩
  rintro m σ2 H2 ⟨ρ2, μ2, S2, er2, sr2, p2⟩
  cases m with
  | zero => exact p2.elim
  | succ m =>
    refine ⟨ρ2, μ2, S2, er2, sr2, ?_⟩
    simp only [whileGo] at p2
    refine (PostS.thenS (R := REq) er2 p2).mono fun k H3 ⟨μ3, k', S3, _, x3, sr3, rk, p3⟩ => ?_
    cases rk
    cases k with
    | false =>
      rw [if_neg Bool.false_ne_true] at p3 ⊢
      exact p3 σ2 H3 μ3 Ext.refl sr3 (er2.ext x3)
    | true =>
      rw [if_pos rfl] at p3 ⊢
      refine ⟨fun σ' H' => ∃ ρ' μ' S', ER X.K g.G H' μ' ρ' σ' ∧ SR X.K g.G H' μ' S' ∧ PostS X.K g W H' μ' (whileGo (A cf) (fb cf) m ρ' S') D, fun σ' H' h => ⟨m, Nat.lt_succ_self _, h⟩, ρ2, μ3, S3, er2.ext x3, sr3, ?_⟩
      revert p3
      cases fb cf ρ2 S3 with
      | nxt ρ4 S4 => exact fun p3 σ4 H4 μ4 x4 s4 e4 => ⟨ρ4, μ4, S4, e4, s4, p3.ext x4⟩
      | cnt ρ4 S4 => exact fun p3 σ4 H4 μ4 x4 s4 e4 => ⟨ρ4, μ4, S4, e4, s4, p3.ext x4⟩
      | brk ρ4 S4 => exact fun p3 => p3
      | ret d4 S4 => exact fun p3 => p3
      | exc c4 ρ4 S4 => exact fun p3 => p3
      | err => exact fun p3 => p3

/-! ### comprehensions -/
theorem wipe_at {σ : L2.St} {i : Nat} : ∀ vs : List Nat, (wipe σ vs)[i]? = if i ∈ vs then (σ[i]?).map (fun _ => none) else σ[i]?
  | [] => by simp [wipe]
  | v :: vs => by
    unfold wipe
    by_cases e : v = i
    · subst e
      rw [List.getElem?_set_self']
      simp only [List.mem_cons, true_or, if_true]
      rw [wipe_at vs]
      split
      · cases σ[v]? <;> rfl
      · cases σ[v]? <;> rfl
    · rw [List.getElem?_set_ne e, wipe_at vs]
      simp only [List.mem_cons, Ne.symm e, false_or]
theorem wipe_wipe (σ : L2.St) (vs : List Nat) : wipe (wipe σ vs) vs = wipe σ vs := by
  apply List.ext_getElem?
  intro i
  rw [wipe_at vs, wipe_at vs]
  split
  · cases σ[i]? <;> rfl
  · rfl
abbrev W0 : WX := fun _ _ _ _ => False
theorem q_lc {elt tg iter : Expr} {ifs : List Expr} {scope : Scope} {own : List (Str × Nat)} {pos : Pos} {it : SI} {is : List Nat} {G : TGT} {T : ST} {f : SE} {tt : TT} (hc : X.calm = true) (hN : X.N.Nodup) (hi : PIq X g W cf tg iter it) (ok : BlkOk X.N X.env.scope scope own)
    (hg : ∀ (s : Shared) (H : Hp) (C : Addr) (cl : List (Str × Addr)) (fp : List Addr), PGq (X.blk s H scope (compEnvC scope cl C X.env) fp) g tg is G) (hw : ∀ i ∈ is, i ∈ own.map (·.2))
    (ht : ∀ (s : Shared) (H : Hp) (C : Addr) (cl : List (Str × Addr)) (fp : List Addr), PTs (X.blk s H scope (compEnvC scope cl C X.env) fp) ifs (tT X.K g W0 cf T))
    (he : ∀ (s : Shared) (H : Hp) (C : Addr) (cl : List (Str × Addr)) (fp : List Addr), PEq (X.blk s H scope (compEnvC scope cl C X.env) fp) g W0 cf elt f) (hs : ∀ x, foldedSetIterable iter X.env x = pure x) :
    PEq X g W cf (.ListComp elt [⟨tg, iter, ifs, 0⟩] scope pos) (mLc it G T f (own.map (·.2))) ∧
    ∀ {σ : L2.St} {H : Hp} {Q : VK}, tE X.K g W cf (mLc it G T f (own.map (·.2))) σ H Q → tLc (tI X.K g W cf it) (tG X.K g is G) (tT X.K g W0 cf T) (tE X.K g W0 cf f) (own.map (·.2)) σ H Q := by
  have key : ∀ (σ : L2.St) (H : Hp) (Q : VK), tE X.K g W cf (mLc it G T f (own.map (·.2))) σ H Q → tLc (tI X.K g W cf it) (tG X.K g is G) (tT X.K g W0 cf T) (tE X.K g W0 cf f) (own.map (·.2)) σ H Q := by
    intro σ H Q ⟨ρ, μ, S, er, sr, p⟩
    refine ⟨ρ, μ, S, er, sr, ?_⟩
    have p : Post X.K g W σ H μ (RV X.K g) ((it cf ρ S).bind fun J S1 => (lcGo J.holds G (T cf) (f cf) S1.length (wipeD ρ (own.map (·.2))) J.items (S1 ++ [.lst []])).bind fun _ S2 => .ok (.ref S1.length) S2) Q := p
    revert p
    cases it cf ρ S with
    | err => exact fun p => p
    | exc c S1 => exact fun p => p
    | ok J S1 =>
      intro p Jh H1 μ1 x1 sr1 ir D hD
      have p : Post X.K g W σ H μ (RV X.K g) ((lcGo J.holds G (T cf) (f cf) S1.length (wipeD ρ (own.map (·.2))) J.items (S1 ++ [.lst []])).bind fun _ S2 => .ok (.ref S1.length) S2) Q := p
      have xs : Ext X.K g.G H1 μ1 (upd H1 D (.lst [])) (μ1 ++ [D]) := ext_snoc hD
      have er1 := ((er.ext x1).ext xs).wipe (own.map (·.2))
      refine ⟨fun i m H' => m = J.items.length - i ∧ i ≤ J.items.length ∧ ∃ μ' S', Ext X.K g.G (upd H1 D (.lst [])) (μ1 ++ [D]) H' μ' ∧ SR X.K g.G H' μ' S' ∧
          Post X.K g W σ H' μ' (RV X.K g) ((lcGo J.holds G (T cf) (f cf) S1.length (wipeD ρ (own.map (·.2))) (J.items.drop i) S').bind fun _ S2 => .ok (.ref S1.length) S2) Q,
        ⟨J.items.length, by simp, Nat.zero_le _, μ1 ++ [D], S1 ++ [.lst []], Ext.refl, sr1.snoc hD (show IsVs X.K g.G H1 μ1 [] [] from rfl), by rw [List.drop_zero]; exact (p.ext x1).ext xs⟩, ?_⟩
      rintro i m H2 ⟨rfl, hi2, μ2, S2, x2, sr2, p2⟩
      have place : μ2[S1.length]? = some D := x2.at (by rw [← sr1.len]; simp)
      by_cases hh : J.holds S2 = true
      · obtain ⟨go, stop⟩ := ir H2 μ2 S2 (xs.trans x2) sr2 hh
        by_cases hlt : i < J.items.length
        · obtain ⟨d, hd⟩ : ∃ d, J.items[i]? = some d := ⟨J.items[i], by simp [hlt]⟩
          have hdrop : J.items.drop i = d :: J.items.drop (i + 1) := by
            rw [List.drop_eq_getElem_cons hlt]
            rw [List.getElem?_eq_getElem hlt] at hd
            cases hd; rfl
          obtain ⟨g1, g2⟩ := go i d hd
          rw [hdrop] at p2
          simp only [lcGo, hh, if_true] at p2
          refine .inr ⟨g1, fun H' => ∃ μ' S', Ext X.K g.G (upd H1 D (.lst [])) (μ1 ++ [D]) H' μ' ∧ SR X.K g.G H' μ' S' ∧
            Post X.K g W σ H' μ' (RV X.K g) ((lcGo J.holds G (T cf) (f cf) S1.length (wipeD ρ (own.map (·.2))) (J.items.drop (i + 1)) S').bind fun _ S2 => .ok (.ref S1.length) S2) Q,
            fun H' h => ⟨J.items.length - (i + 1), by omega, rfl, hlt, h⟩, fun v H3 y => ?_⟩
          obtain ⟨μ3, x3, sr3, hv⟩ := g2 v H3 y
          have er3 := ((er1.ext x2).ext x3)
          refine ⟨d, _, μ3, S2, sr3, er3, hv, ?_⟩
          cases q : G d (wipeD ρ (own.map (·.2))) S2 with
          | none => simp only [q] at p2; exact p2.elim
          | some ρ3 =>
            simp only [q] at p2
            refine fun σ3 er4 hwp => ⟨by rw [hwp _ hw]; exact wipe_wipe σ _, ρ3, μ3, S2, er4, sr3, ?_⟩
            cases qt : T cf ρ3 S2 with
            | err => simp only [qt] at p2; exact p2.elim
            | exc c4 S4 => simp only [qt] at p2; exact p2.elim
            | ok k S4 =>
              intro H4 μ4 k' x4 s4 rk
              have rk : k = k' := rk
              subst rk
              cases k with
              | false =>
                simp only [qt] at p2
                rw [if_neg Bool.false_ne_true]
                exact ⟨μ4, S4, (x2.trans x3).trans x4, s4, (p2.ext x3).ext x4⟩
              | true =>
                simp only [qt] at p2
                rw [if_pos rfl]
                refine ⟨ρ3, μ4, S4, er4.ext x4, s4, ?_⟩
                cases qe : f cf ρ3 S4 with
                | err => simp only [qe] at p2; exact p2.elim
                | exc c5 S5 => simp only [qe] at p2; exact p2.elim
                | ok y S5 =>
                  simp only [qe] at p2
                  intro H5 μ5 y' x5 s5 ry
                  cases q5 : S5[S1.length]? with
                  | none => simp only [q5] at p2; exact p2.elim
                  | some o =>
                    cases o with
                    | rol _ => simp only [q5] at p2; exact p2.elim
                    | lst acc =>
                      simp only [q5] at p2
                      by_cases hl : acc.length < SL
                      · rw [if_pos hl] at p2
                        have pl5 : μ5[S1.length]? = some D := ((x3.trans x4).trans x5).at place
                        obtain ⟨b, vs, e1, _, h1, h2⟩ := s5.lst q5 (x := .ref D) ⟨D, rfl, pl5⟩
                        cases e1
                        refine ⟨_, h1, by rw [h2.length]; exact hl, μ5, _, ?_, s5.put q5 pl5 h1 (h2.append (show IsVs X.K g.G H5 μ5 [y] [y'] from ⟨y', [], rfl, ry, rfl⟩)), ?_⟩
                        · exact (((x2.trans x3).trans x4).trans x5).trans (ext_put h1)
                        · exact (((p2.ext x3).ext x4).ext x5).ext (ext_put h1)
                      · rw [if_neg hl] at p2; exact p2.elim
        · have e : i = J.items.length := by omega
          subst e
          rw [List.drop_length] at p2
          simp only [lcGo, hh, if_true] at p2
          exact .inl ⟨stop, p2.ok sr2 ⟨D, rfl, place⟩⟩
      · have : Post X.K g W σ H2 μ2 (RV X.K g) (Res.err : Res _root_.Q.D) Q := by
          cases hx : J.items.drop i with
          | nil => rw [hx] at p2; simpa only [lcGo, hh, if_false, Bool.false_eq_true, bind_err] using p2
          | cons _ _ => rw [hx] at p2; simpa only [lcGo, hh, if_false, Bool.false_eq_true, bind_err] using p2
        exact this.elim
  exact ⟨PE.imp (pe_lc hc hN hi ok hg ht he hs) key, fun {σ H Q} h => key σ H Q h⟩
end
end Q
namespace Q
open PySem L2
/-- the promise of the def n -/
def spF (K : PySem.W.Frag) (g : Sig) (cf : CF) (n np : Nat) : Sp := fun vs H Q E =>
  vs.length = np ∧ ∃ ds μ S, SR K g.G H μ S ∧ IsVs K g.G H μ ds vs ∧ Post K g (fun cls d _ H' => E cls d H') [] H μ (RV K g) (cf n ds S) Q
theorem spF_len {K : PySem.W.Frag} {g : Sig} {cf : CF} {n np : Nat} {vs : List V} {H : Hp} {Q : VK} {E : XK} (h : spF K g cf n np vs H Q E) : vs.length = np := h.1
theorem Post.w {α β : Type} {K : PySem.W.Frag} {g : Sig} {W : WX} {σ σ' : L2.St} {H : Hp} {μ : List Addr} {R : Hp → List Addr → α → β → Prop} {r : Res α} {Q : β → Hp → Prop} (h : Post K g W σ H μ R r Q) :
    Post K g (fun cls d _ H' => W cls d σ H') σ' H μ R r Q := by
  cases r with
  | ok a S => exact h
  | exc c S => exact h
  | err => exact h
theorem Post.w0 {α β : Type} {K : PySem.W.Frag} {g : Sig} {W W' : WX} {σ σ' : L2.St} {H : Hp} {μ : List Addr} {R : Hp → List Addr → α → β → Prop} {r : Res α} {Q : β → Hp → Prop} (hw : ∀ c d H, W c d σ H → W' c d σ' H) (h : Post K g W σ H μ R r Q) :
    Post K g W' σ' H μ R r Q := by
  cases r with
  | ok a S => exact h
  | exc c S => exact fun H' μ' cls d e s q => hw _ _ _ (h H' μ' cls d e s q)
  | err => exact h
/-- as FnOk, where nobody shows anything (repr) around the call -/
structure FnG (P : Program) (w : World) (K : PySem.W.Frag) (mg : Str → Option Value) (base : Heap) (k : Nat) (f : Addr) (fd : FuncData) (ps : List Str) (sp : Sp) : Prop where
  len : ∀ vs H Q E, sp vs H Q E → vs.length = ps.length
  run : ∀ (A : Around) (outer : List PySem.Env) (s : Shared) (H : Hp) (args : Args) (us : List Value) (vs : List V) (Q : VK) (E : XK), A.guards = some [] → Room k A → Env0 P w K mg base A outer s H → BindsTo s fd args (ps.zip us) → Vals vs us → sp vs H Q E →
    codeAny (model P w) A (.call (.ref f) args) (L2.CR (L2.CX P w) outer P w H s Q E) s
theorem FnG.mono {P : Program} {w : World} {K : PySem.W.Frag} {mg : Str → Option Value} {base : Heap} {j k : Nat} {f : Addr} {fd : FuncData} {ps : List Str} {sp : Sp} (h : FnG P w K mg base j f fd ps sp) (hk : j ≤ k) : FnG P w K mg base k f fd ps sp :=
  ⟨h.len, fun A outer s H args us vs Q E hg hr => h.run A outer s H args us vs Q E hg (hr.mono hk)⟩
section
variable {X : Cx} {k n : Nat} {f : Addr} {fd : FuncData} {ps ks : List Str} {sp : Sp} {E : XK}
/-- a call, its arguments bound -/
theorem run_fnG {pins : List (Addr × Obj)} {σ : L2.St} {H : Hp} {s : Shared} {Q : VK} {us bs : List Value} {kw : List (Str × Value)} {vs : List V} (F : FnG X.prog X.w X.K X.mg X.base k f fd ps sp) (hg : X.A.guards = some []) (hr : Room k X.A) (hb : BindsTo s fd ⟨us, kw⟩ (ps.zip bs))
    (hx : PassesAt (L2.CX X.prog X.w) X σ E) (I : Inv X pins σ H s) (r : Vals vs bs) (h : sp vs H Q E) : wpAny (model X.prog X.w) X.A (call (.ref f) us kw) (EP X pins σ Q) X.xe s := by
  refine wpAny_call (codeAny_mono (F.run X.A X.stack s H ⟨us, kw⟩ bs vs Q E hg hr I.env0 hb r h) fun r s' hq => ?_)
  match r, hq with
  | .error e, hq => exact hx pins H s e s' I hq
  | .ok (.ret u), hq => exact I.after hq
end
section
variable {X : Cx} {g : Sig} {W : WX} {cf : CF} {F : SA} {n np k : Nat} {f : Addr} {fd : FuncData} {ps : List Str} {x : Str} {p pos : Pos} {e : Expr} {es : List Expr}
theorem spF_of {np : Nat} {ds : List D} {vs : List V} {σ : L2.St} {H : Hp} {μ : List Addr} {S : Store} {Q : VK} (hlen : ∀ (xs : List D) (S : Store) (H : Hp) (μ : List Addr) (W : WX) (σ : L2.St) (Q : VK), Post X.K g W σ H μ (RV X.K g) (cf n xs S) Q → xs.length = np)
    (sr : SR X.K g.G H μ S) (rx : IsVs X.K g.G H μ ds vs) (pp : Post X.K g W σ H μ (RV X.K g) (cf n ds S) Q) : spF X.K g cf n np vs H Q (WE W σ) :=
  ⟨by rw [rx.length]; exact hlen _ _ _ _ _ _ _ pp, ds, μ, S, sr, rx, pp.w⟩
theorem q_call (hF : FnG X.prog X.w X.K X.mg X.base k f fd ps (spF X.K g cf n np)) (hgu : X.A.guards = some []) (hr : Room k X.A) (hg : Gl X x) (hm : X.mg x = some (.ref f)) (hk : PySem.W.keepIn X.K (.ref f) = true) (hb : Binds X.K fd ps []) (tk : Takes X W)
    (hlen : ∀ (xs : List D) (S : Store) (H : Hp) (μ : List Addr) (W : WX) (σ : L2.St) (Q : VK), Post X.K g W σ H μ (RV X.K g) (cf n xs S) Q → xs.length = np)
    (ha : PAq X g W cf (e :: es) F) (hdb : (x == ("__debug__" : Str)) = false) (he : starEach (e :: es) X.env = (false, eval e X.env) :: starEach es X.env) (hpl : (backTo pos (starEach es X.env)).any (·.1) = false) :
    PEq X g W cf (.Call (.Name x p) (e :: es) [] pos) (mCall n F) := by
  constructor
  intro pins s σ H Q I q
  obtain ⟨ρ, μ, S, er, sr, pp⟩ := q
  refine wpAny_Call_Name_kw (ld_glob I hg hm ?_ hdb)
  refine PySem.W.callWith_K (h₀ := X.base) I.ok.mod.kin hk (thn (ha.run pos pins s σ H _ I ⟨ρ, μ, S, er, sr, (Post.bind (R := RVs X.K g) pp).mono fun xs H1 h => h⟩) fun us s1 ⟨vs, H1, I1, r, μ1, ds, S1, qF, x1, sr1, rx, p1⟩ => ⟨I1.kIn, ?_⟩) he hpl
  have q2 := spF_of hlen sr1 rx p1
  have b := hb s1 us I1.kIn (by rw [List.append_nil, ← r.length]; exact hF.len _ _ _ _ q2)
  rw [List.append_nil] at b
  exact run_fnG hF hgu hr b (passAt tk σ) I1 r q2
theorem q_call0 (hF : FnG X.prog X.w X.K X.mg X.base k f fd ps (spF X.K g cf n np)) (hgu : X.A.guards = some []) (hr : Room k X.A) (hg : Gl X x) (hm : X.mg x = some (.ref f)) (hk : PySem.W.keepIn X.K (.ref f) = true) (hb : Binds X.K fd ps []) (tk : Takes X W)
    (hlen : ∀ (xs : List D) (S : Store) (H : Hp) (μ : List Addr) (W : WX) (σ : L2.St) (Q : VK), Post X.K g W σ H μ (RV X.K g) (cf n xs S) Q → xs.length = np)
    (hdb : (x == ("__debug__" : Str)) = false) :
    PEq X g W cf (.Call (.Name x p) [] [] pos) (mCall n mNil) := by
  constructor
  intro pins s σ H Q I q
  obtain ⟨ρ, μ, S, er, sr, pp⟩ := q
  have pp : Post X.K g W σ H μ (RV X.K g) (cf n [] S) Q := pp
  show wpAny _ _ (do let f ← eval (.Name x p) X.env; callWith pos f [] (backTo pos (starEach [] X.env)) []) _ _ _
  refine wpAny_bind (ld_glob I hg hm ?_ hdb)
  refine PySem.W.callWith_K0 I.kIn hk ?_
  have q2 := spF_of (σ := σ) hlen sr (show IsVs X.K g.G H μ [] [] from rfl) pp
  have b := hb s [] I.kIn (hF.len _ _ _ _ q2)
  exact run_fnG hF hgu hr b (passAt tk σ) I (show Vals [] [] from .nil) q2
/-- what a keyword call needs -/
def KwOk (K : PySem.W.Frag) (fd : FuncData) (ps ks : List Str) (pm : List Nat) : Prop :=
  KBn K fd ps 0 ks (fun _ ws => pm.map fun i => ws.getD i .none) (fun _ zs => pm.map fun i => zs.getD i .non)
theorem q_pk_nil : PK X [] (tA X.K g W cf mNil) := by
  constructor
  intro pos pins s σ H Q I ⟨ρ, μ, S, er, sr, pp⟩
  exact pk_nil.run pos pins s σ H Q I (pp.ok sr rfl)
theorem q_pk_cons {kpos : Pos} {kws : List Keyword} {nm : Option Str} {fa : SE} (ha : PEq X g W cf e fa) (hr : PK X kws (tA X.K g W cf F)) : PK X (⟨nm, e, kpos⟩ :: kws) (tA X.K g W cf (mCons fa F)) := by
  constructor
  intro pos pins s σ H Q I ⟨ρ, μ, S, er, sr, p⟩
  refine (pk_cons ha hr).run pos pins s σ H Q I ?_
  refine ⟨ρ, μ, S, er, sr, (Post.bind (R := RV X.K g) p).mono fun x H1 ⟨μ1, d, S1, _, x1, sr1, rx, p1⟩ => ?_⟩
  refine ⟨ρ, μ1, S1, er.ext x1, sr1, (Post.bind (R := RVs X.K g) p1).mono fun xs H2 ⟨μ2, ds, S2, _, x2, sr2, rxs, p2⟩ => ?_⟩
  exact p2.ok sr2 ⟨x, xs, rfl, x2 d x rx, rxs⟩
theorem isVs_pick {K : PySem.W.Frag} {G : Nat → Option Addr} {H : Hp} {μ : List Addr} {ds : List D} {vs : List V} (h : IsVs K G H μ ds vs) : ∀ pm : List Nat, IsVs K G H μ (pm.map fun i => ds.getD i .non) (pm.map fun i => vs.getD i .non)
  | [] => rfl
  | i :: pm => by
    refine ⟨_, _, rfl, ?_, isVs_pick h pm⟩
    cases q : ds[i]? with
    | some d =>
      obtain ⟨v, q2, r⟩ := h.get q
      simp only [List.getD_eq_getElem?_getD, q, q2, Option.getD_some]
      exact r
    | none =>
      have q2 : vs[i]? = none := by
        rw [List.getElem?_eq_none_iff] at q ⊢
        rw [h.length]; exact q
      simp only [List.getD_eq_getElem?_getD, q, q2, Option.getD_none]
      rfl
theorem q_callK {kws : List Keyword} {ks : List Str} {pm : List Nat} (hF : FnG X.prog X.w X.K X.mg X.base k f fd ps (spF X.K g cf n np)) (hgu : X.A.guards = some []) (hr : Room k X.A) (hg : Gl X x) (hm : X.mg x = some (.ref f)) (hk : PySem.W.keepIn X.K (.ref f) = true)
    (hb : KwOk X.K fd ps ks pm) (tk : Takes X W)
    (hlen : ∀ (xs : List D) (S : Store) (H : Hp) (μ : List Addr) (W : WX) (σ : L2.St) (Q : VK), Post X.K g W σ H μ (RV X.K g) (cf n xs S) Q → xs.length = np)
    (ha : PK X kws (tA X.K g W cf F)) (hcnt : ∀ ρ S ds S1, F cf ρ S = .ok ds S1 → ds.length = ks.length) (hdb : (x == ("__debug__" : Str)) = false)
    (h1 : ((backToKw pos (keywordEach kws X.env)).all fun x => x.1.isSome) = true)
    (h2 : List.filterMap (fun x => x.1) (backToKw pos (keywordEach kws X.env)) = ks)
    (h3 : (((backTo pos (starEach [] X.env)).any fun x => x.1) || (backToKw pos (keywordEach kws X.env)).any fun x => x.1.isNone) = false) :
    PEq X g W cf (.Call (.Name x p) [] kws pos) (mCallK n pm F) := by
  constructor
  intro pins s σ H Q I q
  obtain ⟨ρ, μ, S, er, sr, pp⟩ := q
  show wpAny _ _ (do let f ← eval (.Name x p) X.env; callWith pos f [] (backTo pos (starEach [] X.env)) (backToKw pos (keywordEach kws X.env))) _ _ _
  refine wpAny_bind (ld_glob I hg hm ?_ hdb)
  refine PySem.W.callWith_KW0 I.kIn hk h1 ?_ h3
  refine wpAny_mono (ha.run pos pins s σ H _ I ⟨ρ, μ, S, er, sr, (Post.bind (R := RVs X.K g) pp).mono fun xs H1 h => h⟩) ?_ (fun _ _ h => h)
  rintro ws s1 ⟨zs, H1, I1, rv, μ1, ds, S1, qF, x1, sr1, rx, p1⟩
  refine ⟨I1.kIn, ?_⟩
  rw [h2]
  have lk := hcnt _ _ _ _ qF
  have p3 := isVs_pick rx pm
  have q2 := spF_of hlen sr1 p3 p1
  have b := hb.to s1 [] ws I1.kIn rfl (by rw [← rv.length, rx.length]; exact lk)
  exact run_fnG hF hgu hr b (passAt tk σ) I1 (hb.rel (show Vals [] [] from .nil) rv) q2
end
end Q
namespace Q
open PySem L2
theorem er_start {K : PySem.W.Frag} {G : Nat → Option Addr} {H : Hp} {μ : List Addr} {ds : List D} {vs : List V} {N : List Str} (h : IsVs K G H μ ds vs) : ER K G H μ (ds.map some ++ List.replicate (N.length - ds.length) none) (L2.start N vs) := by
  have hl := h.length
  refine ⟨by simp [L2.start, hl], fun i d q => ?_⟩
  by_cases hi : i < ds.length
  · rw [List.getElem?_append_left (by simpa using hi), List.getElem?_map] at q
    cases e : ds[i]? with
    | none => rw [e] at q; cases q
    | some d' =>
      rw [e] at q
      cases q
      obtain ⟨v, q1, q2⟩ := h.get e
      refine ⟨v, ?_, q2⟩
      show (List.map some vs ++ _)[i]? = _
      rw [List.getElem?_append_left (by simpa [hl] using hi), List.getElem?_map, q1]
      rfl
  · rw [List.getElem?_append_right (by simpa using hi)] at q
    rw [List.getElem?_replicate] at q
    split at q <;> cases q
theorem callN_len {K : PySem.W.Frag} {g : Sig} {tab : Nat → Option Fn} {k n : Nat} {F : Fn} (ht : tab n = some F) : ∀ (xs : List D) (S : Store) (H : Hp) (μ : List Addr) (W : WX) (σ : L2.St) (Q : VK), Post K g W σ H μ (RV K g) (callN tab k n xs S) Q → xs.length = F.pars := by
  intro xs S H μ W σ Q p
  cases k with
  | zero => exact p.elim
  | succ k =>
    simp only [callN, ht, runFn] at p
    by_cases h : xs.length = F.pars
    · exact h
    · rw [if_neg h] at p; exact p.elim
theorem fnG_zero {P : Program} {w : World} {K : PySem.W.Frag} {mg : Str → Option Value} {base : Heap} {g : Sig} {tab : Nat → Option Fn} {n : Nat} {f : Addr} {fd : FuncData} {ps : List Str} :
    FnG P w K mg base 0 f fd ps (spF K g (callN tab 0) n ps.length) :=
  ⟨fun vs H Q E h => h.1, fun A outer s H args us vs Q E _ _ _ _ _ ⟨_, ds, μ, S, _, _, p⟩ => p.elim⟩
/-- a def, by its body -/
theorem fnG_succ {P : Program} {w : World} {K : PySem.W.Frag} {mg : Str → Option Value} {base : Heap} {g : Sig} {tab : Nat → Option Fn} {n k : Nat} {x qual : Str} {st : Stmt} {f : Addr} {fd : FuncData} {N ps : List Str} {F : Fn}
    (hf : Fun K x qual st f fd) (sc : FnScope N ps (defScope st)) (ht : tab n = some F) (hN : F.slots = N.length) (hp : F.pars = ps.length)
    (hb : ∀ (cdv : Value) (A : Around) (outer : List PySem.Env) (s : Shared) (H : Hp) (E : XK), A.guards = some [] → Room k (A.deeper (PyProof.Rows.envOfC qual (defScope st) s.heap.objs.size f cdv)) →
      PSsq (cxOf (L2.CX P w) P w K mg base N qual (defScope st) f cdv A outer s H E) g (fun cls d _ H => E cls d H) (callN tab k) (defBody st) F.body) :
    FnG P w K mg base (k + 1) f fd ps (spF K g (callN tab (k + 1)) n ps.length) := by
  obtain ⟨oc, od, kV, doc, pm, an, cdv, ct, osl, rfl, lk, hcd⟩ := hf.ex
  refine ⟨fun vs H Q E h => h.1, fun A outer s H args us vs Q E hg hr e0 hbd r hsp => ?_⟩
  have hl := hsp.1
  have KX : K.In s.heap := e0.mod.kin.keeps fun b o e => (e0.bs b o e).1
  have lim : s.heap.NoLimit := e0.mod.nolimit.keeps fun b o e => (e0.bs b o e).1
  have hkind : ∀ y ∈ ps.zip us, (defScope st).names.lookup y.1 = some .local ∨ ((defScope st).names.lookup y.1 = some .cell ∧ ((PySem.cellsFrom (s.heap.objs.size + 1) (defScope st).names []).lookup y.1).isSome = true) := fun ⟨n, v⟩ hy =>
    (sc.par n (List.of_mem_zip hy).1).imp id fun q => ⟨q, PySem.W.cellsFrom_some _ _ _ (.inl q)⟩
  refine codeAny_call_function hr.depth (KX _ _ lk) rfl sc.co sc.gen rfl (PySem.W.codeRec_of KX hcd) (hbd _ _ _ _ ?_)
  refine PySem.wpAny_newFunctionEnv_cells sc.kind hkind fun env he s1 x => ?_
  subst he
  refine ⟨lim.keeps x.toInCall.keep, codeAny_func ?_⟩
  have I : Inv (cxOf (L2.CX P w) P w K mg base N qual (defScope st) f cdv A outer s H E) [] (L2.start N vs) H s1 := inv_start sc hr.hd e0 hl r x
  refine wpAny_mono ((hb cdv A outer s H E hg (hr.deeper _)).run [] s1 (L2.start N vs) H { nx := fun _ H' => Q .non H', rt := Q } I ?_) (fun fl s' hs => ?_) fun e s' hs => hs
  · obtain ⟨_, ds, μ, S, sr, rx, p⟩ := hsp
    simp only [callN, ht, runFn] at p
    have hl2 : ds.length = F.pars := by rw [← rx.length, hl, hp]
    rw [if_pos hl2, hN] at p
    refine ⟨_, μ, S, er_start (N := N) rx, sr, ?_⟩
    revert p
    cases F.body (callN tab k) (ds.map some ++ List.replicate (N.length - ds.length) none) S with
    | nxt ρ S1 => exact fun p σ' H' μ' xx s1 e1 => tidy_post (d := _root_.Q.D.non) (v := V.non) sr xx s1 rfl p
    | ret d S1 => exact fun p H' μ' v xx s1 e1 => tidy_post sr xx s1 e1 p
    | exc c ρ S1 => exact fun p σ' H' μ' cls d xx s1 e1 hc => tidyX_post (W := fun cls d _ H => E cls d H) (σ := []) (Q := Q) sr xx s1 hc p
    | brk ρ S1 => exact fun p => p.elim
    | cnt ρ S1 => exact fun p => p.elim
    | err => exact fun p => p.elim
  · match fl, hs with
    | .ret u, ⟨v, σ', H', J, rv, q⟩ => exact ⟨v, H', J.os, J.bare, J.base, J.hok, rv, q⟩
    | .next, ⟨σ', H', J, q⟩ => exact ⟨V.non, H', J.os, J.bare, J.base, J.hok, rfl, q⟩
    | .brk, ⟨_, _, _, q⟩ => exact q.elim
    | .cont, ⟨_, _, _, q⟩ => exact q.elim
end Q
namespace Q
open PySem L2
/-! ### what a for walks -/
def iSeq (a : SE) : SI := fun cf ρ S => (a cf ρ S).bind fun x S1 => match x with
  | .tup ds => .ok (.vals ds) S1
  | .ref n => match S1[n]? with
    | some (.lst ds) => .ok (.list n ds) S1
    | some (.rol ds) => .ok (.list n ds) S1
    | none => .err
  | _ => .err
def iStrD (a : SE) : SI := fun cf ρ S => (a cf ρ S).bind fun x S1 => match x with
  | .str s => .ok (.vals (s.map fun c => .str [c])) S1
  | _ => .err
def inR (j : Int) : Bool := decide (-(2 ^ 62) ≤ j) && decide (j < 2 ^ 62)
theorem inR_iff {j : Int} (h : inR j = true) : -(2 ^ 62) ≤ j ∧ j < 2 ^ 62 := by
  unfold inR at h
  rw [Bool.and_eq_true, decide_eq_true_eq, decide_eq_true_eq] at h
  exact h
def ints1 : List D → Option Int
  | [.int j] => some j
  | _ => none
def ints2 : List D → Option (Int × Int)
  | [.int i, .int j] => some (i, j)
  | _ => none
def ints3 : List D → Option (Int × Int × Int)
  | [.int i, .int j, .int k] => some (i, j, k)
  | _ => none
theorem ints1_eq {ds : List D} {j : Int} (h : ints1 ds = some j) : ds = [.int j] := by
  unfold ints1 at h
  split at h
  · cases h; rfl
  · cases h
theorem ints2_eq {ds : List D} {i j : Int} (h : ints2 ds = some (i, j)) : ds = [.int i, .int j] := by
  unfold ints2 at h
  split at h
  · cases h; rfl
  · cases h
theorem ints3_eq {ds : List D} {i j k : Int} (h : ints3 ds = some (i, j, k)) : ds = [.int i, .int j, .int k] := by
  unfold ints3 at h
  split at h
  · cases h; rfl
  · cases h
def upD (i : Int) (n : Nat) : List D := (List.range n).map fun k => .int (i + (k : Nat))
def iR1 (a : SA) : SI := fun cf ρ S => (a cf ρ S).bind fun xs S1 => match ints1 xs with
  | some j => if inR j then .ok (.vals (upD 0 j.toNat)) S1 else .err
  | _ => .err
def iR2 (a : SA) : SI := fun cf ρ S => (a cf ρ S).bind fun xs S1 => match ints2 xs with
  | some (i, j) => if inR i && inR j then .ok (.vals (upD i (j - i).toNat)) S1 else .err
  | _ => .err
def downD (i : Int) (n : Nat) : List D := (List.range n).map fun k => .int (i - (k : Nat))
def iR3 (a : SA) : SI := fun cf ρ S => (a cf ρ S).bind fun xs S1 => match ints3 xs with
  | some (i, j, c) => if decide (c = -1) && (inR i && inR j) then .ok (.vals (downD i (i - j).toNat)) S1 else .err
  | _ => .err
section
variable {X : Cx} {g : Sig} {W : WX} {cf : CF} {tg e a b c : Expr} {fa : SE} {F : SA} {p pos : Pos}
theorem PostI.of {α β : Type} {K : PySem.W.Frag} {σ : L2.St} {H : Hp} {μ : List Addr} {R : Hp → List Addr → α → β → Prop} {r : Res α} {k : α → Store → Res Q.It} {R' : L2.It → Hp → Prop} (h : PostI K g W σ H μ (r.bind k) R') :
    Post K g W σ H μ R r fun b H' => ∃ μ' x S, r = .ok x S ∧ Ext K g.G H μ H' μ' ∧ SR K g.G H' μ' S ∧ R H' μ' x b ∧ PostI K g W σ H' μ' (k x S) R' := by
  cases r with
  | ok x S =>
    intro H' μ' b e s q
    refine ⟨μ', x, S, rfl, e, s, q, ?_⟩
    have h : PostI K g W σ H μ (k x S) R' := h
    revert h
    cases k x S with
    | ok J S2 => exact fun h Jh H2 μ2 x2 => h Jh H2 μ2 (e.trans x2)
    | exc c S2 => exact fun h H2 μ2 cls d x2 => h H2 μ2 cls d (e.trans x2)
    | err => exact fun h => h
  | exc c S => exact h
  | err => exact h
theorem itR_vals {K : PySem.W.Frag} {H : Hp} {μ : List Addr} {Jh : L2.It} {ds : List D} (go : ∀ i, i < ds.length → ∀ H', Jh.go i H') (yl : ∀ i d, ds[i]? = some d → ∀ H1 x H2, Jh.yld i H1 x H2 → H2 = H1 ∧ ∀ μ, IsV K g.G H1 μ d x) (st : ∀ H', Jh.stop ds.length H') : ItR K g H μ Jh (.vals ds) :=
  fun H1 μ1 S1 x1 s1 _ => ⟨fun i d q => ⟨go i (List.getElem?_eq_some_iff.mp q).1 H1, fun x H2 y => by
    obtain ⟨rfl, z⟩ := yl i d q H1 x H2 y
    exact ⟨μ1, Ext.refl, s1, z μ1⟩⟩, st H1⟩
theorem PostI.end {K : PySem.W.Frag} {σ : L2.St} {H : Hp} {μ : List Addr} {S : Store} {J : Q.It} {Jh : L2.It} {R : L2.It → Hp → Prop} (p : PostI K g W σ H μ (.ok J S) R) (sr : SR K g.G H μ S) (h : ItR K g H μ Jh J) : R Jh H :=
  p Jh H μ Ext.refl sr h
theorem up_len {i : Int} {n : Nat} : (upD i n).length = n := by simp [upD]
theorem down_len {i : Int} {n : Nat} : (downD i n).length = n := by simp [downD]
theorem itR_up {K : PySem.W.Frag} {H : Hp} {μ : List Addr} {i : Int} {n : Nat} : ItR K g H μ (Itr i n) (.vals (upD i n)) := by
  refine itR_vals (fun k hk H' => by rw [up_len] at hk; exact hk) (fun k d q H1 x H2 y => ?_) (fun H' => by rw [up_len]; exact Nat.le_refl n)
  obtain ⟨rfl, rfl⟩ := y
  refine ⟨rfl, fun μ => ?_⟩
  have hk : k < n := by have := (List.getElem?_eq_some_iff.mp q).1; rwa [up_len] at this
  simp only [upD, List.getElem?_map, List.getElem?_range hk, Option.map_some, Option.some.injEq] at q
  subst q; rfl
theorem itR_down {K : PySem.W.Frag} {H : Hp} {μ : List Addr} {i : Int} {n : Nat} : ItR K g H μ (Itc i (-1) n) (.vals (downD i n)) := by
  refine itR_vals (fun k hk H' => by rw [down_len] at hk; exact hk) (fun k d q H1 x H2 y => ?_) (fun H' => by rw [down_len]; exact Nat.le_refl n)
  obtain ⟨rfl, rfl⟩ := y
  refine ⟨rfl, fun μ => ?_⟩
  have hk : k < n := by have := (List.getElem?_eq_some_iff.mp q).1; rwa [down_len] at this
  simp only [downD, List.getElem?_map, List.getElem?_range hk, Option.map_some, Option.some.injEq] at q
  subst q
  show V.int _ = V.int _
  congr 1
  omega
theorem qi_range1 (hg : Gl X "range") (hm : X.mg "range" = none) (ha : PAq X g W cf [a] F) (hs : starEach [a] X.env = [(false, eval a X.env)]) : PIq X g W cf tg (.Call (.Name "range" p) [a] [] pos) (iR1 F) := by
  refine PI.imp (pi_range1 hg hm ha hs) fun σ H R ⟨ρ, μ, S, er, sr, pp⟩ => ?_
  refine ⟨ρ, μ, S, er, sr, (PostI.of (R := RVs X.K g) pp).mono fun xs H1 ⟨μ1, ds, S1, _, x1, sr1, rx, p1⟩ => ?_⟩
  cases hd : ints1 ds with
  | none => simp only [hd] at p1; exact p1.elim
  | some j =>
    have ed := ints1_eq hd
    subst ed
    simp only [hd] at p1
    obtain ⟨v, r, rfl, rv, rr⟩ := rx
    have e1 : v = V.int j := rv
    have e2 : r = [] := rr
    subst e1 e2
    cases hj : inR j with
    | true =>
      simp only [hj, if_true] at p1
      exact ⟨j, rfl, (inR_iff hj).1, (inR_iff hj).2, p1.end sr1 itR_up⟩
    | false => simp only [hj, if_false, Bool.false_eq_true] at p1; exact p1.elim
theorem qi_range2 (hg : Gl X "range") (hm : X.mg "range" = none) (ha : PAq X g W cf [a, b] F) (hs : starEach [a, b] X.env = [(false, eval a X.env), (false, eval b X.env)]) (hs2 : starEach [b] X.env = [(false, eval b X.env)]) : PIq X g W cf tg (.Call (.Name "range" p) [a, b] [] pos) (iR2 F) := by
  refine PI.imp (pi_range2 hg hm ha hs hs2) fun σ H R ⟨ρ, μ, S, er, sr, pp⟩ => ?_
  refine ⟨ρ, μ, S, er, sr, (PostI.of (R := RVs X.K g) pp).mono fun xs H1 ⟨μ1, ds, S1, _, x1, sr1, rx, p1⟩ => ?_⟩
  cases hd : ints2 ds with
  | none => simp only [hd] at p1; exact p1.elim
  | some w =>
    obtain ⟨i, j⟩ := w
    have ed := ints2_eq hd
    subst ed
    simp only [hd] at p1
    obtain ⟨v, r, rfl, rv, v2, r2, rfl, rv2, rr⟩ := rx
    have e1 : v = V.int i := rv
    have e3 : v2 = V.int j := rv2
    have e2 : r2 = [] := rr
    subst e1 e2 e3
    cases hj : (inR i && inR j) with
    | true =>
      simp only [hj, if_true] at p1
      rw [Bool.and_eq_true] at hj
      exact ⟨i, j, rfl, ⟨(inR_iff hj.1).1, (inR_iff hj.1).2, inR_iff hj.2⟩, p1.end sr1 itR_up⟩
    | false => simp only [hj, if_false, Bool.false_eq_true] at p1; exact p1.elim
theorem qi_range3 (hg : Gl X "range") (hm : X.mg "range" = none) (ha : PAq X g W cf [a, b, c] F) (hs : starEach [a, b, c] X.env = (false, eval a X.env) :: starEach [b, c] X.env) (hpl : (backTo pos (starEach [b, c] X.env)).any (·.1) = false) : PIq X g W cf tg (.Call (.Name "range" p) [a, b, c] [] pos) (iR3 F) := by
  refine PI.imp (pi_range3 hg hm ha hs hpl) fun σ H R ⟨ρ, μ, S, er, sr, pp⟩ => ?_
  refine ⟨ρ, μ, S, er, sr, (PostI.of (R := RVs X.K g) pp).mono fun xs H1 ⟨μ1, ds, S1, _, x1, sr1, rx, p1⟩ => ?_⟩
  cases hd : ints3 ds with
  | none => simp only [hd] at p1; exact p1.elim
  | some w =>
    obtain ⟨i, j, k⟩ := w
    have ed := ints3_eq hd
    subst ed
    simp only [hd] at p1
    obtain ⟨v, r, rfl, rv, v2, r2, rfl, rv2, v3, r3, rfl, rv3, rr⟩ := rx
    have e1 : v = V.int i := rv
    have e3 : v2 = V.int j := rv2
    have e4 : v3 = V.int k := rv3
    have e2 : r3 = [] := rr
    subst e1 e2 e3 e4
    cases hj : (decide (k = -1) && (inR i && inR j)) with
    | true =>
      simp only [hj, if_true] at p1
      rw [Bool.and_eq_true, Bool.and_eq_true, decide_eq_true_eq] at hj
      obtain ⟨rfl, h1, h3⟩ := hj
      exact ⟨i, j, -1, _, rfl, RgC.neg (inR_iff h1).1 (inR_iff h1).2 (inR_iff h3).1 (inR_iff h3).2, p1.end sr1 itR_down⟩
    | false => simp only [hj, if_false, Bool.false_eq_true] at p1; exact p1.elim
theorem qi_str (ha : PEq X g W cf e fa) : PIq X g W cf tg e (iStrD fa) := by
  refine PI.imp (pi_str ha) fun σ H R ⟨ρ, μ, S, er, sr, pp⟩ => ?_
  refine ⟨ρ, μ, S, er, sr, (PostI.of (R := RV X.K g) pp).mono fun x H1 ⟨μ1, d, S1, _, x1, sr1, rx, p1⟩ => ?_⟩
  cases d with
  | str s =>
    refine ⟨_, rx, p1.end sr1 (itR_vals (fun k hk H' => ?_) (fun k d q H1 x H2 y => ?_) (fun H' => ?_))⟩
    · show k < (mkS s).cps.size; simpa using hk
    · obtain ⟨rfl, c, h1, rfl⟩ := y
      refine ⟨rfl, fun μ => ?_⟩
      have h1 : s[k]? = some c := by simpa using h1
      rw [List.getElem?_map, h1] at q
      cases q; rfl
    · show (mkS s).cps.size ≤ _; simp
  | _ => exact p1.elim
/-- a list or a tuple, walked -/
def iSeqL (K : PySem.W.Frag) (tl : TE) : TI := fun σ H R => tl σ H fun x H1 => ∃ a, x = .ref a ∧ (((∃ xs, SqL K H1 a xs) ∧ R (Itl K a) H1) ∨ ((∃ xs, SqT K H1 a xs) ∧ R (Itt K a) H1))
theorem pi_seq {l : Expr} {tl : TE} (hl : PE X l tl) : PI X tg l (iSeqL X.K tl) := by
  refine ⟨fun pins s σ H R I h => ?_⟩
  refine thn (hl.run pins s σ H _ I h) fun v s1 ⟨x, H1, I1, r1, q1⟩ => ?_
  obtain ⟨a, e, q⟩ := q1
  subst e
  cases r1
  rcases q with ⟨⟨xs, hq⟩, q⟩ | ⟨⟨xs, hq⟩, q⟩
  · obtain ⟨its, rv, p, hz⟩ := I1.list hq
    refine wpAny_pyIter_list p.isList ?_
    refine ⟨s1.heap.objs.size, [s1.heap.objs.size], _, _, H1, rfl, I1.kept (t' := s1.toks) fun b o e => Heap.get?_push_of_some _ e, turn_list a _, ⟨_, Heap.get?_push_size _ rfl, rfl, rfl⟩, fun b hb => ?_, q⟩
    have e : b = s1.heap.objs.size := by simpa using hb
    subst e
    exact I1.fpOk (Nat.le_refl _) (I1.hok.fresh (Nat.le_refl _))
  · obtain ⟨its, rv, p, hz⟩ := I1.tuple hq
    refine wpAny_pyIter_tuple (show s1.heap.IsTuple a its.toArray from p) ?_
    refine ⟨s1.heap.objs.size, [s1.heap.objs.size], _, _, H1, rfl, I1.kept (t' := s1.toks) fun b o e => Heap.get?_push_of_some _ e, turn_tuple a _, ⟨_, Heap.get?_push_size _ rfl, rfl, rfl⟩, fun b hb => ?_, q⟩
    have e : b = s1.heap.objs.size := by simpa using hb
    subst e
    exact I1.fpOk (Nat.le_refl _) (I1.hok.fresh (Nat.le_refl _))
theorem qi_seq (ha : PEq X g W cf e fa) : PIq X g W cf tg e (iSeq fa) := by
  refine PI.imp (pi_seq ha) fun σ H R ⟨ρ, μ, S, er, sr, pp⟩ => ?_
  refine ⟨ρ, μ, S, er, sr, (PostI.of (R := RV X.K g) pp).mono fun x H1 ⟨μ1, d, S1, _, x1, sr1, rx, p1⟩ => ?_⟩
  cases d with
  | tup ds =>
    obtain ⟨a, vs, rfl, q1, q2⟩ := isV_tup rx
    refine ⟨a, rfl, .inr ⟨⟨vs, q1⟩, p1.end sr1 fun H2 μ2 S2 x2 s2 _ => ?_⟩⟩
    obtain ⟨a', vs', e, q3, q4⟩ := isV_tup (x2 _ _ rx)
    cases e
    refine ⟨fun i d q => ?_, ⟨vs', q3, by show vs'.length ≤ ds.length; rw [q4.length]; exact Nat.le_refl _⟩⟩
    obtain ⟨v, h1, h2⟩ := q4.get (show ds[i]? = some d from q)
    refine ⟨⟨vs', v, q3, h1⟩, fun x H3 ⟨e3, y⟩ => ?_⟩
    subst e3
    have := y vs' q3
    rw [h1] at this
    cases this
    exact ⟨μ2, Ext.refl, s2, h2⟩
  | ref n =>
    have main : ∀ ds, (S1[n]? = some (.lst ds) ∨ S1[n]? = some (.rol ds)) → PostI X.K g W σ H1 μ1 (.ok (.list n ds) S1) R → ∃ a, x = .ref a ∧ (((∃ xs, SqL X.K H1 a xs) ∧ R (Itl X.K a) H1) ∨ ((∃ xs, SqT X.K H1 a xs) ∧ R (Itt X.K a) H1)) := by
      intro ds hn p1
      have one : ∀ {H μ S}, SR X.K g.G H μ S → (S[n]? = some (.lst ds) ∨ S[n]? = some (.rol ds)) → ∃ a vs, μ[n]? = some a ∧ SqL X.K H a vs ∧ IsVs X.K g.G H μ ds vs := by
        intro H μ S sr hn
        rcases hn with hn | hn
        · obtain ⟨a, m, o⟩ := sr.ob _ _ hn
          obtain ⟨vs, o1, o2⟩ := o.sql (.inl rfl)
          exact ⟨a, vs, m, o1, o2⟩
        · obtain ⟨a, m, o⟩ := sr.ob _ _ hn
          obtain ⟨vs, o1, o2⟩ := o.sql (.inr rfl)
          exact ⟨a, vs, m, o1, o2⟩
      obtain ⟨a, ex, hm⟩ := rx
      obtain ⟨a0, vs0, m0, s0, i0⟩ := one sr1 hn
      rw [hm] at m0; cases m0
      refine ⟨a, ex, .inl ⟨⟨vs0, s0⟩, p1.end sr1 fun H2 μ2 S2 x2 s2 hh => ?_⟩⟩
      have hh : S2[n]? = some (.lst ds) ∨ S2[n]? = some (.rol ds) := by simpa only [It.holds, decide_eq_true_eq] using hh
      obtain ⟨a2, vs', m2, q3, q4⟩ := one s2 hh
      rw [x2.at hm] at m2; cases m2
      refine ⟨fun i d q => ?_, ⟨vs', q3, by show vs'.length ≤ ds.length; rw [q4.length]; exact Nat.le_refl _⟩⟩
      obtain ⟨v, h1, h2⟩ := q4.get (show ds[i]? = some d from q)
      refine ⟨⟨vs', v, q3, h1⟩, fun x H3 ⟨e3, y⟩ => ?_⟩
      subst e3
      have := y vs' q3
      rw [h1] at this
      cases this
      exact ⟨μ2, Ext.refl, s2, h2⟩
    simp only at p1
    split at p1
    · rename_i ds q; exact main ds (.inl q) p1
    · rename_i ds q; exact main ds (.inr q) p1
    · exact p1.elim
  | _ => exact p1.elim
end
end Q
namespace Q
open PySem L2
def partsS : List Str := ["choose", "least", "less", "most", "plus", "times"]
def partsK : List Str := partsL.map fun p => Str.ofString p.1
def dSorted : List D → Store → Res D
  | [.glb 0], S => .ok (.ref S.length) (S ++ [.lst (partsS.map fun x => .str x.cps.toList)])
  | _, _ => .err
def ixS (x : Str) : Nat := (partsS.findIdx? (· == x)).getD 9
def allS (p : Str → Str → Bool) : Bool := partsS.all fun a => partsS.all fun b => p a b
theorem allS_mem {p : Str → Str → Bool} (h : allS p = true) {a b : Str} (ha : a ∈ partsS) (hb : b ∈ partsS) : p a b = true := by
  unfold allS at h
  rw [List.all_eq_true] at h
  have := h a ha
  rw [List.all_eq_true] at this
  exact this b hb
theorem ixS_lt : allS (fun a b => (!PySem.Spec.ltCps b.cps.toList a.cps.toList) == decide (ixS a ≤ ixS b)) = true := by decide +kernel
theorem ixS_inj : allS (fun a b => decide (ixS a = ixS b → a = b)) = true := by decide +kernel
theorem rising_pw : ∀ (l : List Str) (p : Str), p ∈ partsS → (∀ x ∈ l, x ∈ partsS) → PyProof.Rows.risingS p l = true → (p :: l).Pairwise (fun a b => ixS a ≤ ixS b)
  | [], p, _, _, _ => by simp
  | x :: r, p, hp, hl, h => by
    unfold PyProof.Rows.risingS at h
    simp only [Bool.and_eq_true] at h
    have ih := rising_pw r x (hl x (by simp)) (fun y hy => hl y (List.mem_cons_of_mem _ hy)) h.2
    have h1 : ixS p ≤ ixS x := by
      have := allS_mem ixS_lt hp (hl x (by simp))
      simp only [beq_iff_eq] at this
      rw [h.1] at this
      exact of_decide_eq_true this.symm
    refine List.pairwise_cons.mpr ⟨fun y hy => ?_, ih⟩
    rcases List.mem_cons.mp hy with rfl | hy
    · exact h1
    · exact Nat.le_trans h1 ((List.pairwise_cons.mp ih).1 y hy)
theorem sorted_parts {ys : List Str} (hp : ys.Perm partsK) (hs : PyProof.Rows.sortedS ys = true) : ys = partsS := by
  have hk : partsK.Perm partsS := by decide +kernel
  have h1 : ys.Perm partsS := hp.trans hk
  refine List.Perm.eq_of_pairwise (le := fun a b => ixS a ≤ ixS b) (fun a b ha hb h h' => ?_) ?_ ?_ h1
  · exact of_decide_eq_true (allS_mem ixS_inj (h1.subset ha) hb) (Nat.le_antisymm h h')
  · cases ys with
    | nil => simp
    | cons y r => exact rising_pw r y (h1.subset (by simp)) (fun x hx => h1.subset (List.mem_cons_of_mem _ hx)) hs
  · decide +kernel
section
variable {X : Cx} {g : Sig}
theorem parts_dict {P : Program} {w : World} : ∀ {es : List DictEntry} {l : List (String × Int)}, EntriesAre w.params es l → ∃ vs : List (Key × Value), Pairs (mixKind P w) es vs ∧ vs.map (·.1) = l.map (fun p => Sum.inr (Str.ofString p.1)) ∧ ∀ e ∈ es, ∃ k, (mixKind P w).is k e.key = true ∧ e.hash = (mixKind P w).hash k
  | [], l, h => by
    have h : l = [] := h
    subst h
    exact ⟨[], .nil, rfl, by simp⟩
  | e :: es, l, h => by
    obtain ⟨x, i, l', rfl, ⟨t, ek⟩, hh, hv, h⟩ := h
    obtain ⟨vs, h1, h2, h3⟩ := parts_dict (P := P) h
    have hk : (mixKind P w).is (Sum.inr (Str.ofString x)) e.key = true := by rw [ek]; exact keyIs_str _ t
    refine ⟨(Sum.inr (Str.ofString x), e.val) :: vs, .cons hk rfl h1, by simp [h2], fun e' he' => ?_⟩
    rcases List.mem_cons.mp he' with rfl | he'
    · exact ⟨_, hk, hh⟩
    · exact h3 e' he'
theorem call_sortedP (hcalm : X.calm = true) : CallR X (.builtin "sorted") (fun xs H Q => ∃ a : Addr, xs = [.ref a] ∧ PartsAt X.K X.w a ∧
    ∀ p, H p = none → Q (.ref p) (upd H p (.lst (partsS.map V.str)))) := by
  intro pins s σ H xs us Q I r q
  obtain ⟨a, ex, pa, q⟩ := q
  subst ex
  obtain ⟨u, eu, rx⟩ := vals1 r
  subst eu
  cases rx
  obtain ⟨es, n, lk, ent⟩ := pa.at_
  obtain ⟨vs, pr, hkeys, hko⟩ := parts_dict (P := X.prog) ent
  have lo := pa.low
  have hkeys : vs.map (·.1) = partsK.map Sum.inr := by rw [hkeys]; simp [partsK]
  have dd : s.heap.DictOf (mixKind X.prog X.w) a vs := ⟨_, es, n, I.kIn _ _ lk, ⟨rfl, rfl, rfl⟩, rfl, fun e he => hko e (by simpa using he), pr, by
    rw [hkeys]; decide +kernel⟩
  obtain ⟨ep, hat⟩ := dd.dictAt
  have hl : vs.length = partsK.length := by
    have e := congrArg List.length hkeys
    rw [List.length_map, List.length_map] at e
    exact e
  have h64 : partsK.length < 64 := by decide
  have h16 : vs.length ≤ sizeLine := by rw [hl, sizeLine_eq]; omega
  refine Calls.call_function_entry PyProof.Rows.kind_sorted PyProof.Rows.plain_sorted PyProof.Rows.entry_sorted (PyProof.Rows.args_sorted1 _) ?_
  unfold Builtin.«sorted»
  refine wpAny_bind (m := checkCount "sorted" 1 1 _) (wpAny_pure ?_)
  refine wpAny_bind (PySem.W.kdu_collect (A := X.A.in1) (PySem.W.kdl_dict (knd := mixKind X.prog X.w) (kvs := vs) (ep := ep) lo) (I.ok.hd hcalm) hat h16 fun h' tk acc hk hacc => ?_)
  have hal : acc.toList.length = partsK.length := by rw [Array.length_toList, hacc.1, hl]
  have hS : PyProof.Rows.StrsAre acc.toList partsK := strs_at hal fun j v e => by
    obtain ⟨k, x, e1, e2⟩ := hacc.2 j v (by rw [← Array.getElem?_toList]; exact e)
    have e3 : (vs.map (·.1))[j]? = some k := by rw [List.getElem?_map, e1]; all_goals rfl
    rw [hkeys, List.getElem?_map] at e3
    cases e4 : partsK[j]? with
    | none => rw [e4] at e3; cases e3
    | some y =>
      rw [e4] at e3
      have e5 : Sum.inr y = k := Option.some.inj e3
      subst e5
      obtain ⟨t, ev⟩ := Value.isStrOf_shape (x := y) (v := v) e2
      exact ⟨y, t, rfl, ev⟩
  have I1 : Inv X pins σ H { s with heap := h', toks := tk } := I.kept hk
  refine wpAny_bind (wpAny_newList ?_ (by rw [hal, sizeLine_eq]; omega))
  have hoL : (h'.push (PyProof.Rows.seqObj "list" acc.toList.toArray 0)).get? h'.objs.size = some (PyProof.Rows.seqObj "list" acc.toList.toArray 0) := Heap.get?_push_size _ rfl
  show wpAny _ _ _ _ _ { s with heap := h'.push (PyProof.Rows.seqObj "list" acc.toList.toArray 0), toks := tk }
  refine wpAny_bind (wpAny_holding (wpAny_call_entry PyProof.Rows.slot_list_sort ⟨_, hoL, rfl⟩ PyProof.Rows.entry_list_sort
    (PyProof.Rows.list_sort_treeK PyProof.Rows.strKind_oneLt (s := { s with heap := h'.push (PyProof.Rows.seqObj "list" acc.toList.toArray 0), toks := tk }) hoL hS.keysOf (fun v₁ v₂ rest e => PyProof.Rows.keyKind_strs (by rw [← e]; exact hS)) (by rw [hal]; exact h64) fun st' hp hs => ⟨_, rfl, ?_⟩)
    (PyProof.Rows.args_list_sort _)))
  obtain ⟨ys, g1, g2, g3⟩ := PyProof.Rows.sorted_out_str hS hp hs
  have eys := sorted_parts g2 g3
  subst eys
  obtain ⟨e', he'⟩ := PyProof.Rows.sortedHeap_at (vs := acc.toList) (out := (PyProof.Rows.arrOf st').map (·.2)) hoL
  have hlen : (partsS.map V.str).length ≤ sizeLine := by decide
  refine wpAny_pure ⟨_, rfl, .ref h'.objs.size, upd H h'.objs.size (.lst (partsS.map V.str)), I1.laid (t' := tk) (fun b u e => ?_) (Nat.le_refl _)
    (show ObjOk X.prog X.w _ _ _ (.lst (partsS.map V.str)) from ⟨hlen, ((PyProof.Rows.arrOf st').map (·.2)).toList, e', vals_of_strs g1, by rw [Array.toArray_toList]; exact he'⟩), rfl, q _ (I1.hok.fresh (Nat.le_refl _))⟩
  have hb : b < h'.objs.size := Heap.lt_size e
  rw [PyProof.Rows.sortedHeap_old (Nat.ne_of_lt hb) (by rw [PyProof.Rows.size_push']; exact Nat.lt_succ_of_lt hb)]
  exact Heap.get?_push_of_some _ e
theorem c_sorted (G : GOk X.K X.w g) (hc : X.calm = true) : CallD X g (.builtin "sorted") dSorted := by
  refine ⟨_, call_sortedP hc, fun W σ H μ S ds xs Q sr rx p => ?_⟩
  have e : ds = [.glb 0] := by
    unfold dSorted at p
    split at p
    · rfl
    · exact p.elim
  subst e
  obtain ⟨v, rfl, rv⟩ := isVs1 rx
  obtain ⟨a, rfl, pa⟩ := glb0 G rv
  refine ⟨a, rfl, pa, fun q hq => ?_⟩
  have p : Post X.K g W σ H μ (RV X.K g) (.ok (.ref S.length) (S ++ [.lst (partsS.map fun x => .str x.cps.toList)])) Q := p
  have hv : IsVs X.K g.G H μ (partsS.map fun x => .str x.cps.toList) (partsS.map V.str) := by
    exact ⟨_, _, rfl, rfl, _, _, rfl, rfl, _, _, rfl, rfl, _, _, rfl, rfl, _, _, rfl, rfl, _, _, rfl, rfl, rfl⟩
  exact p.ok' (ext_snoc hq) (sr.snoc hq hv) ⟨q, rfl, by rw [← sr.len]; simp⟩
end
end Q
namespace Q
open PySem L2
def dRepr : List D → Store → Res D
  | [d], S => match pyOf S PF d with
    | some p => if p.showable && (decide (p.depth ≤ 150) && (!p.hasDict && decide (p.shown.length ≤ SL))) then .ok (.str p.shown.cps.toList) S else .err
    | none => .err
  | _, _ => .err
mutual
theorem dp_reads {X : Cx} {pins : List (Addr × Obj)} {σ : L2.St} {H : Hp} {s : Shared} (I : Inv X pins σ H s) : ∀ {x : V} {d : PyData}, Dp X.K H x d → ∀ {v : Value}, RelV x v → ∃ as, Reads s.heap v d as
  | _, _, .non, v, r => by
    have e : v = .none := r
    subst e; exact ⟨_, .none⟩
  | _, _, .bl b, v, r => by
    have e : v = .bool b := r
    subst e; exact ⟨_, .bool b⟩
  | _, _, .int i, v, r => by
    obtain ⟨t, rfl⟩ := r
    exact ⟨_, .int i t⟩
  | _, _, .str x, v, r => by
    obtain ⟨t, rfl⟩ := r
    exact ⟨_, .str x t⟩
  | _, _, .lst h1 h2, v, r => by
    cases r
    obtain ⟨its, rv, ⟨o, n, h3, h4, h5⟩, _⟩ := I.list h1
    obtain ⟨as, h6⟩ := dps_reads I h2 rv
    exact ⟨_, .list h3 h4 h5.2 (by simpa using h6)⟩
  | _, _, .tup h1 h2, v, r => by
    cases r
    obtain ⟨its, rv, hp, _⟩ := I.tuple h1
    obtain ⟨o, e3, h4, n, h5⟩ := (show s.heap.IsTuple _ its.toArray from hp)
    obtain ⟨as, h6⟩ := dps_reads I h2 rv
    exact ⟨_, .tuple e3 h4 h5 (by simpa using h6)⟩
theorem dps_reads {X : Cx} {pins : List (Addr × Obj)} {σ : L2.St} {H : Hp} {s : Shared} (I : Inv X pins σ H s) : ∀ {xs : List V} {ds : List PyData}, DpAll X.K H xs ds → ∀ {vs : List Value}, Vals xs vs → ∃ as, ReadsAll s.heap vs ds as
  | _, _, .nil, vs, r => by
    cases r; exact ⟨_, .nil⟩
  | _, _, .cons h1 h2, vs, r => by
    cases r with
    | cons r1 r2 =>
      obtain ⟨a, q1⟩ := dp_reads I h1 r1
      obtain ⟨b, q2⟩ := dps_reads I h2 r2
      exact ⟨_, .cons q1 q2⟩
end
section
variable {X : Cx} {g : Sig}
theorem call_repr (hg : X.A.guards = some []) (hu : X.A.units + 200 < cLine) : CallR X (.builtin "repr") (fun xs H Q => ∃ (x : V) (d : PyData), xs = [x] ∧ Dp X.K H x d ∧ d.showable = true ∧ d.depth ≤ 150 ∧ d.hasDict = false ∧ d.shown.length ≤ sizeLine ∧ Q (.str d.shown) H) := by
  intro pins s σ H xs us Q I r q
  obtain ⟨x, d, ex, hd, h1, h2, h3, h4, q⟩ := q
  subst ex
  obtain ⟨u, eu, rx⟩ := vals1 r
  subst eu
  have fin : ∀ (h' : Heap) (t : Tok) (tk : Nat), (∀ b o, s.heap.get? b = some o → h'.get? b = some o) → EP X pins σ Q (.str d.shown t) { s with heap := h', toks := tk } := fun h' t tk hk =>
    ⟨.str d.shown, H, I.kept (t' := tk) hk, ⟨t, rfl⟩, q⟩
  cases hd with
  | non =>
    have e : u = .none := rx
    subst e
    exact PySem.P.repr_of_none (fin _ _ _ fun _ _ h => h)
  | bl b =>
    have e : u = .bool b := rx
    subst e
    exact PySem.P.repr_of_bool (fin _ _ _ fun _ _ h => h)
  | int i =>
    obtain ⟨t, rfl⟩ := rx
    have h1 : decide (i.natAbs.log2 < 1920) = true := by simpa only [PyData.showable] using h1
    exact PySem.P.repr_of_int (of_decide_eq_true h1) (fin _ _ _ fun _ _ h => h)
  | str y =>
    obtain ⟨t, rfl⟩ := rx
    exact PySem.P.repr_of_str (fin _ _ _ fun _ _ h => h) (by simpa only [PyData.shown] using h4)
  | lst a1 a2 =>
    obtain ⟨as, rd⟩ := dp_reads I (.lst a1 a2) rx
    cases rx
    exact repr_of_reads' rd h1 (PyData.noDict_hsm h3) hg (by omega) (fun _ _ e => e) (fun h' t tk hk => fin h' t tk hk) h4
  | tup a1 a2 =>
    obtain ⟨as, rd⟩ := dp_reads I (.tup a1 a2) rx
    cases rx
    exact repr_of_reads' rd h1 (PyData.noDict_hsm h3) hg (by omega) (fun _ _ e => e) (fun h' t tk hk => fin h' t tk hk) h4
theorem c_repr (hg : X.A.guards = some []) (hu : X.A.units + 200 < cLine) : CallD X g (.builtin "repr") dRepr := by
  refine ⟨_, call_repr hg hu, fun W σ H μ S ds xs Q sr rx p => ?_⟩
  match ds, rx, p with
  | [d], rx, p =>
    obtain ⟨v, rfl, rv⟩ := isVs1 rx
    simp only [dRepr] at p
    cases e : pyOf S PF d with
    | none => simp only [e] at p; exact p.elim
    | some a =>
      simp only [e] at p
      split at p
      · rename_i hc
        simp only [Bool.and_eq_true, decide_eq_true_eq, Bool.not_eq_true'] at hc
        obtain ⟨c1, c2, c3, c4⟩ := hc
        refine ⟨v, a, rfl, (py_dp sr _).1 d v a rv e, c1, c2, c3, c4, p.ok sr ?_⟩
        show V.str a.shown = V.str ⟨a.shown.cps.toList.toArray⟩
        rw [Array.toArray_toList]
      · exact p.elim
  | [], _, p => exact p.elim
  | _ :: _ :: _, _, p => exact p.elim
end
end Q
namespace Q
open PySem L2
/-! ### from the text to its steps -/
structure TC where
  N : List Str
  sc : Scope
  oc : List (Str × NameKind)
  blt : List Str
  cst : List (Str × D)
  fns : List (Str × Nat)
  kws : List (Nat × List Str × List Nat)
def eErr : SE := fun _ _ _ => .err
def sErr : SS := fun _ _ _ => .err
def tErr : ST := fun _ _ _ => .err
def aErr : SA := fun _ _ _ => .err
def pErr : SP := fun _ _ _ => .err
def iErr : SI := fun _ _ _ => .err
def ixN (x : Str) : List Str → Option Nat
  | [] => none
  | y :: r => if x = y then some 0 else (ixN x r).map (· + 1)
def bad (x : Str) : Bool := (x == ("__debug__" : Str)) || (x == ("__classdict__" : Str)) || decide (x = ("__name__" : Str))
def isGl (tc : TC) (x : Str) : Bool := decide (tc.sc.names.lookup x = some .globalImplicit)
def isLoc (tc : TC) (x : Str) : Bool := decide (tc.sc.names.lookup x = some .local)
/-- a name that may be set here -/
def asg (tc : TC) (x : Str) : Bool := decide (tc.sc.names.lookup x = some .local) || (decide (tc.sc.names.lookup x = some .cell) && decide (tc.oc.lookup x = some .cell))
def trN (tc : TC) (x : Str) : SE := if bad x then eErr else match tc.sc.names.lookup x with
  | some .globalImplicit => match tc.cst.lookup x with
    | some d => mC d
    | none => eErr
  | some .globalExplicit => eErr
  | none => eErr
  | some _ => match ixN x tc.N with
    | some i => mVar i
    | none => eErr
def trC : Const → SE
  | .none => mC .non
  | .bool b => mC (.bl b)
  | .int i => mC (.int i)
  | .str s => mC (.str s.cps.toList)
  | _ => eErr
def opD : Operator → Option (D → D → Store → Res D)
  | .Add => some dAdd
  | .Sub => some dSub
  | .Mult => some dMul
  | .FloorDiv => some dDiv
  | .Mod => some dMod
  | .Pow => some dPow
  | _ => none
def dIadd : D → D → Store → Res D
  | .int i, .int j, S => .ok (.int (i + j)) S
  | .str a, .str b, S => if a.length + b.length ≤ SL then .ok (.str (a ++ b)) S else .err
  | _, _, _ => .err
def iopD : Operator → Option (D → D → Store → Res D)
  | .Add => some dIadd
  | .Sub => some dSub
  | _ => none
def cmpD : CmpOp → D → D → Store → Res D
  | .Lt => dLt
  | .LtE => dLe
  | .Gt => dGt
  | .GtE => dGe
  | .Eq => dEq
  | .NotEq => dNe
  | .Is => dIs
  | .IsNot => dIsNot
  | .In => dIn
  | .NotIn => dNotIn
def isStar : Expr → Bool
  | .Starred _ _ => true
  | _ => false
def isSet : Expr → Bool
  | .Set _ _ _ => true
  | _ => false
def isCall : Expr → Bool
  | .Call _ _ _ _ => true
  | _ => false
def isSlice : Expr → Bool
  | .Slice _ _ _ _ => true
  | _ => false
def isComp : Expr → Bool
  | .ListComp _ _ _ _ => true
  | .SetComp _ _ _ _ => true
  | .DictComp _ _ _ _ _ => true
  | _ => false
/-- what is built in: a def, a type -/
inductive Bl where
  | f (id : String)
  | t (id : String)
def bltD (x : Str) : Option (Bl × (List D → Store → Res D)) :=
  if x = "len" then some (.f "len", dLen) else
  if x = "str" then some (.t "str", dStr) else
  if x = "int" then some (.t "int", dInt) else
  if x = "tuple" then some (.t "tuple", dTuple) else
  if x = "max" then some (.f "max", dMax2) else
  if x = "min" then some (.f "min", dMin2) else
  if x = "sum" then some (.f "sum", dSum) else
  if x = "repr" then some (.f "repr", dRepr) else
  if x = "sorted" then some (.f "sorted", dSorted) else none
def isiT (x : Str) : Option String :=
  if x = "tuple" then some "tuple" else
  if x = "str" then some "str" else
  if x = "int" then some "int" else
  if x = "bool" then some "bool" else
  if x = "list" then some "list" else
  if x = "dict" then some "dict" else none
def methD (m : Str) : Option (String × String × (D → List D → Store → Res D)) :=
  if m = "append" then some ("list", "list.append", dAppend) else
  if m = "join" then some ("str", "str.join", dJoin) else
  if m = "startswith" then some ("str", "str.startswith", dStarts) else
  if m = "get" then some ("dict", "dict.get", dGet) else none
def ownOf (N : List Str) : List (Str × NameKind) → List (Str × Nat)
  | [] => []
  | (x, k) :: r => if k = .local ∨ k = .cell then match ixN x N with
      | some i => (x, i) :: ownOf N r
      | none => ownOf N r
    else ownOf N r
def relS (scope sc : Scope) : Scope :=
  { scope with names := scope.names.map fun (n, k) => if (k == .free && sc.kind == .function && sc.names.lookup n == some .cell) then (n, .cell) else (n, k) }
def blkOkB (sc scope : Scope) : Bool := decide (scope.kind = .function) && (scope.names.all fun y => decide (scope.names.lookup y.1 = some y.2)) &&
  (scope.names.all fun y => !decide (y.2 = .free) || (decide (sc.names.lookup y.1 = some .cell) || decide (sc.names.lookup y.1 = some .free)))
def blkTC (tc : TC) (scope : Scope) : TC := { tc with sc := relS scope tc.sc, oc := scope.names }
def trGs (tc : TC) : List Expr → Option (List Nat)
  | [] => some []
  | .Name x _ :: r => if asg tc x then match ixN x tc.N, trGs tc r with
      | some i, some is => some (i :: is)
      | _, _ => none
    else none
  | _ :: _ => none
def trG (tc : TC) : Expr → Option (List Nat × TGT)
  | .Name x _ => if asg tc x then match ixN x tc.N with
      | some i => some ([i], gNm i)
      | none => none
    else none
  | .Tuple es _ _ => match trGs tc es with
    | some is => some (is, gTup is)
    | none => none
  | _ => none
def kwNames : List Keyword → Option (List Str)
  | [] => some []
  | ⟨some x, _, _⟩ :: r => (kwNames r).map (x :: ·)
  | ⟨none, _, _⟩ :: _ => none
def kwFind (n : Nat) (ks : List Str) : List (Nat × List Str × List Nat) → Option (List Nat)
  | [] => none
  | (m, js, pm) :: r => if m = n ∧ js = ks then some pm else kwFind n ks r
def isRange (tc : TC) (x : Str) : Bool := decide (x = "range") && (isGl tc "range" && tc.blt.contains "range")
/-- two names set at once, kept on the stack -/
def parOk (tc : TC) (x y : Str) (px py : Pos) (e1 e2 : Expr) : Bool :=
  decide (tc.sc.kind = .function) && isLoc tc x && isLoc tc y && (px.line == py.line) && !decide (x = y) && !isStar e1 && !isStar e2 &&
  !(foldedForSure 8 e1 && foldedForSure 8 e2) && !(constantsAlone 8 e1 && constantsAlone 8 e2)
mutual
def trE : Nat → TC → Expr → SE
  | 0, _, _ => eErr
  | n + 1, tc, e => match e with
    | .Name x _ => trN tc x
    | .Constant c _ _ => trC c
    | .BinOp a op b _ => match opD op with
      | some f => mOp f (trE n tc a) (trE n tc b)
      | none => eErr
    | .UnaryOp .USub a _ => mUn dNeg (trE n tc a)
    | .UnaryOp .Not a _ => mNot (trE n tc a)
    | .Compare a [op] [b] _ => if behindInMarks op b then eErr else mOp (cmpD op) (trE n tc a) (trE n tc b)
    | .Compare a [op, op'] [b, c] _ => if lastMarks [op, op'] [b, c] then eErr else mChain (cmpD op) (cmpD op') (trE n tc a) (trE n tc b) (trE n tc c)
    | .BoolOp op vs _ => trB n tc op vs
    | .IfExp c a b _ => mIf (trT n tc c) (trE n tc a) (trE n tc b)
    | .Tuple es _ _ => mTup (trA n tc es)
    | .List es _ => mLst (trA n tc es)
    | .Subscript a (.Slice lo hi none _) _ => mSlice dSl (trE n tc a) (trP n tc lo) (trP n tc hi)
    | .Subscript _ (.Slice _ _ (some _) _) _ => eErr
    | .Subscript a b _ => mOp dIx (trE n tc a) (trE n tc b)
    | .Call (.Name x _) [] [] _ => if bad x || !isGl tc x then eErr else match tc.fns.lookup x with
      | some m => mCall m mNil
      | none => eErr
    | .Call (.Name x _) [] (k :: ks) _ => if bad x || !isGl tc x then eErr else match tc.fns.lookup x, kwNames (k :: ks) with
      | some m, some js => match kwFind m js tc.kws with
        | some pm => mCallK m pm (trK n tc (k :: ks))
        | none => eErr
      | _, _ => eErr
    | .Call (.Name x _) (a :: as) [] _ => if bad x || !isGl tc x then eErr else
      if x = "isinstance" then (match as with
        | [.Name y _] => match isiT y with
          | some T => if tc.blt.contains "isinstance" && tc.blt.contains y && isGl tc y && !isStar a then mUn (dIsi T) (trE n tc a) else eErr
          | none => eErr
        | _ => eErr)
      else if tc.blt.contains x then match bltD x with
        | some (_, f) => if (a :: as).any isStar then eErr else mApp f (trA n tc (a :: as))
        | none => eErr
      else match tc.fns.lookup x with
        | some m => if (a :: as).any isStar then eErr else mCall m (trA n tc (a :: as))
        | none => eErr
    | .Call (.Attribute o m apos) (a :: as) [] pos => match methD m with
      | some (T, _, f) => if isCall o || (a :: as).any isStar || !(apos.endLine == pos.line) || !decide ((a :: as).length < 30) then eErr else mMeth T f (trE n tc o) (trA n tc (a :: as))
      | none => eErr
    | .ListComp elt [⟨tg, iter, ifs, 0⟩] scope _ => trLc n tc elt tg iter ifs scope
    | _ => eErr
def trLc : Nat → TC → Expr → Expr → Expr → List Expr → Scope → SE
  | 0, _, _, _, _, _, _ => eErr
  | n + 1, tc, elt, tg, iter, ifs, scope => if !blkOkB tc.sc scope || isSet iter then eErr else match trG (blkTC tc scope) tg with
      | some (is, G) => if is.all fun i => ((ownOf tc.N scope.names).map (·.2)).contains i then
          match ifs with
          | [] => mLc (trI n tc iter) G tYes (trE n (blkTC tc scope) elt) ((ownOf tc.N scope.names).map (·.2))
          | [t] => mLc (trI n tc iter) G (trT n (blkTC tc scope) t) (trE n (blkTC tc scope) elt) ((ownOf tc.N scope.names).map (·.2))
          | _ => eErr
        else eErr
      | none => eErr
def trB : Nat → TC → BoolOp → List Expr → SE
  | 0, _, _, _ => eErr
  | n + 1, tc, op, vs => match op, vs with
    | _, [a] => trE n tc a
    | .And, a :: b :: r => mAnd (trE n tc a) (trB n tc .And (b :: r))
    | .Or, a :: b :: r => mOr (trE n tc a) (trB n tc .Or (b :: r))
    | _, [] => eErr
def trT : Nat → TC → Expr → ST
  | 0, _, _ => tErr
  | n + 1, tc, e => match e with
    | .BoolOp op vs _ => trW n tc op vs
    | .UnaryOp .Not a _ => tNot (trT n tc a)
    | .Compare a [op] [b] _ => if behindInMarks op b then tErr else tVal (mOp (cmpD op) (trE n tc a) (trE n tc b))
    | .Compare a [op, op'] [b, c] _ => if lastMarks [op, op'] [b, c] then tErr else tVal (mChain (cmpD op) (cmpD op') (trE n tc a) (trE n tc b) (trE n tc c))
    | .Name x p => tVal (trE n tc (.Name x p))
    | .Call f as ks p => tVal (trE n tc (.Call f as ks p))
    | .Subscript a b p => tVal (trE n tc (.Subscript a b p))
    | _ => tErr
def trW : Nat → TC → BoolOp → List Expr → ST
  | 0, _, _, _ => tErr
  | n + 1, tc, op, vs => match op, vs with
    | _, [a] => trT n tc a
    | .And, a :: b :: r => tAnd (trT n tc a) (trW n tc .And (b :: r))
    | .Or, a :: b :: r => tOr (trT n tc a) (trW n tc .Or (b :: r))
    | _, [] => tErr
def trA : Nat → TC → List Expr → SA
  | 0, _, _ => aErr
  | n + 1, tc, es => match es with
    | [] => mNil
    | e :: r => if isStar e then aErr else mCons (trE n tc e) (trA n tc r)
def trK : Nat → TC → List Keyword → SA
  | 0, _, _ => aErr
  | n + 1, tc, ks => match ks with
    | [] => mNil
    | ⟨_, e, _⟩ :: r => mCons (trE n tc e) (trK n tc r)
def trP : Nat → TC → Option Expr → SP
  | 0, _, _ => pErr
  | n + 1, tc, o => match o with
    | none => mNoPart
    | some e => mPart (trE n tc e)
def trI : Nat → TC → Expr → SI
  | 0, _, _ => iErr
  | n + 1, tc, e => match e with
    | .Call (.Name x p) [a] [] pos => if isRange tc x then (if isStar a then iErr else iR1 (trA n tc [a])) else iSeq (trE n tc (.Call (.Name x p) [a] [] pos))
    | .Call (.Name x p) [a, b] [] pos => if isRange tc x then (if isStar a || isStar b then iErr else iR2 (trA n tc [a, b])) else iSeq (trE n tc (.Call (.Name x p) [a, b] [] pos))
    | .Call (.Name x p) [a, b, c] [] pos => if isRange tc x then (if isStar a || isStar b || isStar c then iErr else iR3 (trA n tc [a, b, c])) else iSeq (trE n tc (.Call (.Name x p) [a, b, c] [] pos))
    | e => iSeq (trE n tc e)
end
mutual
def trS : Nat → TC → Stmt → SS
  | 0, _, _ => sErr
  | n + 1, tc, s => match s with
    | .Expr e _ => if isComp e then sErr else sExpr (trE n tc e)
    | .Return (some e) _ => sRet (trE n tc e)
    | .If c a b _ => sIf (trT n tc c) (trSs n tc a) (trSs n tc b)
    | .While c b [] _ => sWhile (trT n tc c) (trSs n tc b)
    | .For tg it b [] _ => if isSet it then sErr else match trG tc tg with
      | some (_, G) => sFor (trI n tc it) G (trSs n tc b)
      | none => sErr
    | .Pass _ => sSkip
    | .Break _ => sBrk
    | .Continue _ => sCnt
    | .Assign [.Name x _] e _ => if isComp e || !asg tc x then sErr else match ixN x tc.N with
      | some i => sAsg (trE n tc e) (gNm i)
      | none => sErr
    | .Assign [.Tuple [.Name x px, .Name y py] _ _] (.Tuple [e1, e2] _ _) _ => if parOk tc x y px py e1 e2 then match ixN x tc.N, ixN y tc.N with
        | some i, some j => sPar (trA n tc [e1, e2]) [i, j]
        | _, _ => sErr
      else sErr
    | .Assign [.Tuple _ _ _] (.Tuple _ _ _) _ => sErr
    | .Assign [.Tuple es k p] e _ => if isComp e then sErr else match trG tc (.Tuple es k p) with
      | some (_, G) => sAsg (trE n tc e) G
      | none => sErr
    | .Assign [.Subscript o i _] e _ => if isComp e || isSlice i then sErr else sPut dPut (trE n tc o) (trE n tc i) (trE n tc e)
    | .AugAssign (.Name x _) op e _ => if !asg tc x then sErr else match ixN x tc.N, iopD op with
      | some i, some f => sAug i f (trE n tc e)
      | _, _ => sErr
    | _ => sErr
def trSs : Nat → TC → List Stmt → SS
  | 0, _, _ => sErr
  | n + 1, tc, ss => match ss with
    | [] => sSkip
    | [s] => trS n tc s
    | s :: r => sSeq (trS n tc s) (trSs n tc r)
end
end Q
namespace Q
open PySem L2
/-- what the text's steps need of their place -/
structure CtxOk (X : Cx) (g : Sig) (W : WX) (cf : CF) (tc : TC) (k : Nat) : Prop where
  hN : X.N = tc.N
  nd : tc.N.Nodup
  sc : X.env.scope = tc.sc
  fn : ∀ x, asg tc x = true → X.fn x = true ∨ X.env.scope.names.lookup x = some .local
  calm : X.calm = true
  tk : Takes X W
  gu : X.A.guards = some []
  room : Room k X.A
  G : GOk X.K X.w g
  blt : ∀ x, tc.blt.contains x = true → X.mg x = none
  cst : ∀ x d, tc.cst.lookup x = some d → ∃ u v, X.mg x = some u ∧ RelV v u ∧ ∀ H μ, IsV X.K g.G H μ d v
  fns : ∀ x n, tc.fns.lookup x = some n → ∃ f fd ps, X.mg x = some (.ref f) ∧ PySem.W.keepIn X.K (.ref f) = true ∧ Binds X.K fd ps [] ∧ FnG X.prog X.w X.K X.mg X.base k f fd ps (spF X.K g cf n ps.length) ∧
    (∀ (xs : List D) (S : Store) (H : Hp) (μ : List Addr) (W : WX) (σ : L2.St) (Q : VK), Post X.K g W σ H μ (RV X.K g) (cf n xs S) Q → xs.length = ps.length) ∧
    ∀ ks pm, kwFind n ks tc.kws = some pm → KwOk X.K fd ps ks pm
theorem ixN_get {x : Str} : ∀ {N : List Str} {i : Nat}, ixN x N = some i → N[i]? = some x
  | y :: r, i, h => by
    unfold ixN at h
    by_cases e : x = y
    · rw [if_pos e] at h; cases h; subst e; rfl
    · rw [if_neg e] at h
      cases q : ixN x r with
      | none => rw [q] at h; cases h
      | some j => rw [q] at h; cases h; rw [List.getElem?_cons_succ]; exact ixN_get q
theorem ixN_none {x : Str} : ∀ {N : List Str}, ixN x N = none → x ∉ N
  | [], _ => by simp
  | y :: r, h => by
    unfold ixN at h
    by_cases e : x = y
    · rw [if_pos e] at h; cases h
    · rw [if_neg e] at h
      cases q : ixN x r with
      | none => exact fun hm => (List.mem_cons.mp hm).elim e (ixN_none q)
      | some j => rw [q] at h; cases h
section
variable {X : Cx} {g : Sig} {W : WX} {cf : CF} {tc : TC} {k : Nat}
theorem pe_err {e : Expr} : PEq X g W cf e eErr := ⟨fun pins s σ H Q I ⟨ρ, μ, S, _, _, p⟩ => p.elim⟩
theorem pt_err {e : Expr} : PTq X g W cf e tErr := ⟨fun pins s σ H Q I ⟨ρ, μ, S, _, _, p⟩ => p.elim⟩
theorem pw_err {e : Expr} : PWq X g W cf e tErr := ⟨fun wh pins s σ H Q I ⟨ρ, μ, S, _, _, p⟩ => p.elim⟩
theorem pa_err {es : List Expr} : PAq X g W cf es aErr := ⟨fun pos pins s σ H Q I ⟨ρ, μ, S, _, _, p⟩ => p.elim⟩
theorem pk_err {es : List Keyword} : PK X es (tA X.K g W cf aErr) := ⟨fun pos pins s σ H Q I ⟨ρ, μ, S, _, _, p⟩ => p.elim⟩
theorem po_err {o : Option Expr} : POq X g W cf o pErr := ⟨fun pins s σ H Q I ⟨ρ, μ, S, _, _, p⟩ => p.elim⟩
theorem pi_err {tg e : Expr} : PIq X g W cf tg e iErr := ⟨fun pins s σ H R I ⟨ρ, μ, S, _, _, p⟩ => p.elim⟩
theorem ps_err {s : Stmt} : PSq X g W cf s sErr := ⟨fun pins s σ H D I ⟨ρ, μ, S, _, _, p⟩ => p.elim⟩
theorem pss_err {s : List Stmt} : PSsq X g W cf s sErr := ⟨fun pins s σ H D I ⟨ρ, μ, S, _, _, p⟩ => p.elim⟩
theorem bad_split {x : Str} (h : bad x = false) : (x == ("__debug__" : Str)) = false ∧ (x == ("__classdict__" : Str)) = false ∧ x ≠ "__name__" := by
  unfold bad at h
  simp only [Bool.or_eq_false_iff, decide_eq_false_iff_not] at h
  exact ⟨h.1.1, h.1.2, h.2⟩
theorem CtxOk.un (C : CtxOk X g W cf tc k) : X.A.units + 200 < cLine := by have := C.room.un; omega
theorem CtxOk.gl (C : CtxOk X g W cf tc k) {x : Str} (h : isGl tc x = true) : Gl X x := by
  show X.env.scope.names.lookup x = _
  rw [C.sc]
  exact of_decide_eq_true h
theorem CtxOk.loc (C : CtxOk X g W cf tc k) {x : Str} (h : asg tc x = true) : L2.Loc X.env.scope x := by
  unfold asg at h
  simp only [Bool.or_eq_true, Bool.and_eq_true, decide_eq_true_eq] at h
  unfold L2.Loc
  rw [C.sc]
  rcases h with h | h
  · exact .inl h
  · exact .inr h.1
theorem CtxOk.ndX (C : CtxOk X g W cf tc k) : X.N.Nodup := by rw [C.hN]; exact C.nd
theorem CtxOk.ix (C : CtxOk X g W cf tc k) {x : Str} {i : Nat} (h : ixN x tc.N = some i) : X.N[i]? = some x := by rw [C.hN]; exact ixN_get h
theorem q_trN (C : CtxOk X g W cf tc k) {x : Str} {p : Pos} : PEq X g W cf (.Name x p) (trN tc x) := by
  unfold trN
  cases hb : bad x with
  | true => rw [if_pos rfl]; exact pe_err
  | false =>
    rw [if_neg Bool.false_ne_true]
    obtain ⟨h1, h2, h3⟩ := bad_split hb
    have vis : ∀ {kd : NameKind}, tc.sc.names.lookup x = some kd → (kd = .local ∨ kd = .cell ∨ kd = .free) → PEq X g W cf (.Name x p) (match ixN x tc.N with | some i => mVar i | none => eErr) := fun {kd} hl hk => by
      have hv : Vis X.env.scope x := by
        unfold Vis
        rw [C.sc]
        rcases hk with rfl | rfl | rfl
        · exact .inl hl
        · exact .inr (.inl hl)
        · exact .inr (.inr hl)
      cases hi : ixN x tc.N with
      | none => exact pe_err
      | some i => exact q_var (C.ix hi) hv h1 h2
    cases hl : tc.sc.names.lookup x with
    | none => exact pe_err
    | some kd =>
      cases kd with
      | «local» => exact vis hl (.inl rfl)
      | cell => exact vis hl (.inr (.inl rfl))
      | free => exact vis hl (.inr (.inr rfl))
      | globalExplicit => exact pe_err
      | globalImplicit =>
        show PEq X g W cf (.Name x p) (match tc.cst.lookup x with | some d => mC d | none => eErr)
        cases hc : tc.cst.lookup x with
        | none => exact pe_err
        | some d =>
          obtain ⟨u, v, m, r, iv⟩ := C.cst x d hc
          exact q_const (pe_glob (C.gl (by unfold isGl; rw [hl]; rfl)) m r h1) iv
theorem q_trC {c : Const} {j : Nat} {p : Pos} : PEq X g W cf (.Constant c j p) (trC c) := by
  cases c with
  | none => exact q_non
  | bool b => exact q_bl
  | int i => exact q_int
  | str s => exact q_str
  | _ => exact pe_err
theorem o_opD {op : Operator} {f : D → D → Store → Res D} (h : opD op = some f) : OpD X g (binaryOp op) f := by
  cases op <;> simp only [opD, Option.some.injEq, reduceCtorEq] at h <;> subst h
  · exact o_add
  · exact o_sub
  · exact o_mul
  · exact o_mod
  · exact o_pow
  · exact o_div
theorem o_iopD {op : Operator} {f : D → D → Store → Res D} (h : iopD op = some f) : OpD X g (inplaceOp op) f := by
  cases op <;> simp only [iopD, Option.some.injEq, reduceCtorEq] at h <;> subst h
  · refine ⟨_, iop_add.or iop_add_str, fun W σ H μ S d e x y Q sr hd he p => ?_⟩
    cases d with
    | int i =>
      cases e with
      | int j => exact .inl ⟨i, j, hd, he, p.ok sr rfl⟩
      | _ => exact p.elim
    | str a =>
      cases e with
      | str b =>
        simp only [dIadd] at p
        by_cases hl : a.length + b.length ≤ SL
        · rw [if_pos hl] at p
          refine .inr ⟨_, _, hd, he, ?_, p.ok sr ?_⟩
          · show (mkS a).cps.size + (mkS b).cps.size ≤ sizeLine
            simpa using (show a.length + b.length ≤ sizeLine from hl)
          · show V.str _ = V.str _
            congr 1
            show Str.mk _ = Str.mk _
            simp
        · rw [if_neg hl] at p; exact p.elim
      | _ => exact p.elim
    | _ => exact p.elim
  · refine ⟨_, iop_sub, fun W σ H μ S d e x y Q sr hd he p => ?_⟩
    cases d with
    | int i =>
      cases e with
      | int j => exact ⟨i, j, hd, he, p.ok sr rfl⟩
      | _ => exact p.elim
    | _ => exact p.elim
theorem o_cmpD (C : CtxOk X g W cf tc k) (op : CmpOp) : OpD X g (compareOp op) (cmpD op) := by
  have hu : X.A.units + 64 < cLine := by have := C.un; omega
  cases op
  · exact o_eq hu
  · exact o_ne hu
  · exact o_lt
  · exact o_le
  · exact o_gt
  · exact o_ge
  · exact o_is
  · exact o_isnot
  · exact o_in C.G
  · exact o_notin C.G
theorem star_cons {e : Expr} {es : List Expr} {env : PySem.Env} (h : isStar e = false) : starEach (e :: es) env = (false, eval e env) :: starEach es env := by
  cases e <;> first | rfl | (simp [isStar] at h)
theorem star_any {env : PySem.Env} {pos : Pos} : ∀ {es : List Expr}, es.any isStar = false → (backTo pos (starEach es env)).any (·.1) = false
  | [], _ => rfl
  | e :: es, h => by
    simp only [List.any_cons, Bool.or_eq_false_iff] at h
    rw [star_cons h.1]
    show (false || (backTo pos (starEach es env)).any (·.1)) = false
    rw [star_any h.2]; rfl
theorem star_all {env : PySem.Env} {pos : Pos} : ∀ {es : List Expr}, es.any isStar = false → (backTo pos (starEach es env)).all (fun x => !x.1) = true
  | [], _ => rfl
  | e :: es, h => by
    simp only [List.any_cons, Bool.or_eq_false_iff] at h
    rw [star_cons h.1]
    show (!false && (backTo pos (starEach es env)).all (fun x => !x.1)) = true
    rw [star_all h.2]; rfl
variable {x : Str} {p pos : Pos} {e : Expr} {es : List Expr} {F : SA}
theorem q_blt (C : CtxOk X g W cf tc k) {b : Bl} {f : List D → Store → Res D} (h : bltD x = some (b, f)) (hb : bad x = false) (hg : isGl tc x = true) (hm : tc.blt.contains x = true) (ha : PAq X g W cf (e :: es) F) (hs : (e :: es).any isStar = false) :
    PEq X g W cf (.Call (.Name x p) (e :: es) [] pos) (mApp f F) := by
  obtain ⟨h1, h2, h3⟩ := bad_split hb
  have hst := hs
  simp only [List.any_cons, Bool.or_eq_false_iff] at hst
  have gl := C.gl hg
  have mg := C.blt x hm
  have sc := star_cons (es := es) (env := X.env) hst.1
  have sa := star_any (env := X.env) (pos := pos) hst.2
  unfold bltD at h
  split at h
  · rename_i q; subst q; cases h; exact q_callB o_len gl mg (by decide +kernel) ha h3 h1 sc sa
  split at h
  · rename_i q; subst q; cases h; exact q_callTy o_str gl mg (by decide +kernel) ha h3 h1 sc sa
  split at h
  · rename_i q; subst q; cases h; exact q_callTy o_int gl mg (by decide +kernel) ha h3 h1 sc sa
  split at h
  · rename_i q; subst q; cases h; exact q_callTy o_tuple gl mg (by decide +kernel) ha h3 h1 sc sa
  split at h
  · rename_i q; subst q; cases h; exact q_callB (o_max2 C.calm) gl mg (by decide +kernel) ha h3 h1 sc sa
  split at h
  · rename_i q; subst q; cases h; exact q_callB (o_min2 C.calm) gl mg (by decide +kernel) ha h3 h1 sc sa
  split at h
  · rename_i q; subst q; cases h; exact q_callB (o_sum C.calm) gl mg (by decide +kernel) ha h3 h1 sc sa
  split at h
  · rename_i q; subst q; cases h; exact q_callB (c_repr C.gu C.un) gl mg (by decide +kernel) ha h3 h1 sc sa
  split at h
  · rename_i q; subst q; cases h; exact q_callB (c_sorted C.G C.calm) gl mg (by decide +kernel) ha h3 h1 sc sa
  · cases h
theorem isiT_boot {y : Str} {T : String} (h : isiT y = some T) : bootBuiltins y = some (.type T) ∧ bad y = false := by
  unfold isiT at h
  split at h
  · rename_i q; subst q; cases h; exact ⟨by decide +kernel, by decide +kernel⟩
  split at h
  · rename_i q; subst q; cases h; exact ⟨by decide +kernel, by decide +kernel⟩
  split at h
  · rename_i q; subst q; cases h; exact ⟨by decide +kernel, by decide +kernel⟩
  split at h
  · rename_i q; subst q; cases h; exact ⟨by decide +kernel, by decide +kernel⟩
  split at h
  · rename_i q; subst q; cases h; exact ⟨by decide +kernel, by decide +kernel⟩
  split at h
  · rename_i q; subst q; cases h; exact ⟨by decide +kernel, by decide +kernel⟩
  · cases h
theorem base_ok {o : Expr} {m : Str} (h : isCall o = false) : attributeBase o m X.env (eval o X.env) = eval o X.env := by
  cases o <;> first | rfl | (simp [isCall] at h)
theorem q_methD (C : CtxOk X g W cf tc k) {m : Str} {T id : String} {f : D → List D → Store → Res D} {o : Expr} {fo : SE} {apos : Pos} (h : methD m = some (T, id, f)) (hc : isCall o = false) (hs : (e :: es).any isStar = false) (hl : (apos.endLine == pos.line) = true)
    (h30 : (e :: es).length < 30) (ho : PEq X g W cf o fo) (ha : PAq X g W cf (e :: es) F) : PEq X g W cf (.Call (.Attribute o m apos) (e :: es) [] pos) (mMeth T f fo F) := by
  have hst := hs
  simp only [List.any_cons, Bool.or_eq_false_iff] at hst
  have sc := star_cons (es := es) (env := X.env) hst.1
  have sa := star_any (env := X.env) (pos := pos) hst.2
  have few : ((backTo pos (starEach (e :: es) X.env)).all (fun x => !x.1) && (backToKw pos (keywordEach [] X.env)).all (fun x => x.1.isSome)
      && decide ((e :: es).length + ([] : List Keyword).length + (if ([] : List Keyword).isEmpty then 0 else 1) < 30)) = true := by
    rw [star_all hs]
    simp only [Bool.true_and, List.length_nil, Nat.add_zero, List.isEmpty_nil, if_true]
    rw [decide_eq_true h30]
    rfl
  unfold methD at h
  split at h
  · rename_i q; subst q; cases h
    exact q_meth C.G (.inr (.inl rfl)) PySem.F.plainAttrs_list PySem.F.slot_list_append PySem.F.type_list_append m_append ho ha (base_ok hc) few hl sc sa
  split at h
  · rename_i q; subst q; cases h
    exact q_meth C.G (.inl rfl) PySem.F.plainAttrs_str PySem.F.slot_str_join PySem.F.type_str_join m_join ho ha (base_ok hc) few hl sc sa
  split at h
  · rename_i q; subst q; cases h
    exact q_meth C.G (.inl rfl) PySem.F.plainAttrs_str PySem.F.slot_str_startswith PySem.F.type_str_startswith m_starts ho ha (base_ok hc) few hl sc sa
  split at h
  · rename_i q; subst q; cases h
    exact q_meth C.G (.inr (.inr rfl)) PySem.F.plainAttrs_dict PySem.F.slot_dict_get PySem.F.type_dict_get (m_get C.G) ho ha (base_ok hc) few hl sc sa
  · cases h
/-! ### a comprehension's block -/
theorem own_ix {N : List Str} : ∀ {names : List (Str × NameKind)} {q : Str × Nat}, q ∈ ownOf N names → N[q.2]? = some q.1
  | [], _, h => by simp [ownOf] at h
  | (x, kd) :: r, q, h => by
    unfold ownOf at h
    split at h
    · cases hi : ixN x N with
      | none => rw [hi] at h; exact own_ix h
      | some i =>
        rw [hi] at h
        rcases List.mem_cons.mp h with rfl | h
        · exact ixN_get hi
        · exact own_ix h
    · exact own_ix h
theorem own_all {N : List Str} : ∀ {names : List (Str × NameKind)} {y : Str × NameKind}, y ∈ names → (y.2 = .local ∨ y.2 = .cell) → y.1 ∈ (ownOf N names).map (·.1) ∨ y.1 ∉ N
  | (x, kd) :: r, y, h, hk => by
    unfold ownOf
    rcases List.mem_cons.mp h with rfl | h
    · rw [if_pos hk]
      cases hi : ixN x N with
      | none => exact .inr (ixN_none hi)
      | some i => exact .inl (by simp)
    · have ih := own_all (N := N) h hk
      split
      · cases hi : ixN x N with
        | none => exact ih
        | some i => exact ih.imp (fun q => by simp only [List.map_cons]; exact List.mem_cons_of_mem _ q) id
      · exact ih
theorem blk_ok (C : CtxOk X g W cf tc k) {scope : Scope} (h : blkOkB tc.sc scope = true) : BlkOk X.N X.env.scope scope (ownOf tc.N scope.names) := by
  unfold blkOkB at h
  simp only [Bool.and_eq_true, decide_eq_true_eq, List.all_eq_true, Bool.or_eq_true, Bool.not_eq_true', decide_eq_false_iff_not] at h
  obtain ⟨⟨h1, h2⟩, h3⟩ := h
  refine ⟨h1, h2, fun q hq => by rw [C.hN]; exact own_ix hq, fun y hy hf => ?_, fun y hy hk => by rw [C.hN]; exact own_all hy hk⟩
  rw [C.sc]
  exact (h3 y hy).resolve_left fun q => q hf
theorem ctx_blk (C : CtxOk X g W cf tc k) (scope : Scope) (s : Shared) (H : Hp) (A : Addr) (cl : List (Str × Addr)) (fp : List Addr) : CtxOk (X.blk s H scope (compEnvC scope cl A X.env) fp) g W0 cf (blkTC tc scope) k where
  hN := C.hN
  nd := C.nd
  sc := by
    show PySem.relabel scope X.env = relS scope tc.sc
    unfold PySem.relabel relS Env.kindOf
    rw [C.sc]
  fn := fun x h => by
    have hs : (compEnvC scope cl A X.env).scope = relS scope tc.sc := by
      show PySem.relabel scope X.env = relS scope tc.sc
      unfold PySem.relabel relS Env.kindOf
      rw [C.sc]
    unfold asg at h
    simp only [Bool.or_eq_true, Bool.and_eq_true, decide_eq_true_eq] at h
    show (scope.names.lookup x == some .cell) = true ∨ (compEnvC scope cl A X.env).scope.names.lookup x = _
    rw [hs]
    rcases h with h | h
    · exact .inr h
    · exact .inl (by rw [show scope.names.lookup x = some .cell from h.2]; rfl)
  calm := C.calm
  tk := takes0
  gu := C.gu
  room := C.room
  G := C.G
  blt := C.blt
  cst := C.cst
  fns := C.fns
end
end Q
namespace Q
open PySem L2
structure Snd (n : Nat) : Prop where
  E : ∀ {X g W cf tc k}, CtxOk X g W cf tc k → ∀ e, PEq X g W cf e (trE n tc e)
  Lc : ∀ {X g W cf tc k}, CtxOk X g W cf tc k → ∀ elt tg iter ifs scope pos, PEq X g W cf (.ListComp elt [⟨tg, iter, ifs, 0⟩] scope pos) (trLc n tc elt tg iter ifs scope)
  B : ∀ {X g W cf tc k}, CtxOk X g W cf tc k → ∀ op vs pos, PEq X g W cf (.BoolOp op vs pos) (trB n tc op vs)
  T : ∀ {X g W cf tc k}, CtxOk X g W cf tc k → ∀ e, PTq X g W cf e (trT n tc e)
  Wd : ∀ {X g W cf tc k}, CtxOk X g W cf tc k → ∀ op vs pos, PWq X g W cf (.BoolOp op vs pos) (trW n tc op vs)
  A : ∀ {X g W cf tc k}, CtxOk X g W cf tc k → ∀ es, PAq X g W cf es (trA n tc es)
  K : ∀ {X g W cf tc k}, CtxOk X g W cf tc k → ∀ ks, PK X ks (tA X.K g W cf (trK n tc ks))
  P : ∀ {X g W cf tc k}, CtxOk X g W cf tc k → ∀ o, POq X g W cf o (trP n tc o)
  I : ∀ {X g W cf tc k}, CtxOk X g W cf tc k → ∀ tg e, PIq X g W cf tg e (trI n tc e)
theorem snd_zero : Snd 0 where
  E := fun _ _ => by rw [trE]; exact pe_err
  Lc := fun _ _ _ _ _ _ _ => by rw [trLc]; exact pe_err
  B := fun _ _ _ _ => by rw [trB]; exact pe_err
  T := fun _ _ => by rw [trT]; exact pt_err
  Wd := fun _ _ _ _ => by rw [trW]; exact pw_err
  A := fun _ _ => by rw [trA]; exact pa_err
  K := fun _ _ => by rw [trK]; exact pk_err
  P := fun _ _ => by rw [trP]; exact po_err
  I := fun _ _ _ => by rw [trI]; exact pi_err
section
variable {X : Cx} {g : Sig} {W : WX} {cf : CF} {tc : TC} {k n : Nat}
theorem plain_ix {b : Expr} (h : ∀ lo hi st p, b ≠ .Slice lo hi st p) : PlainIx b := by
  intro o i
  cases b <;> first | rfl | exact absurd rfl (h _ _ _ _)
theorem kw_all {pos : Pos} {env : PySem.Env} : ∀ {kws : List Keyword} {js : List Str}, kwNames kws = some js → ((backToKw pos (keywordEach kws env)).all fun x => x.1.isSome) = true ∧ List.filterMap (fun x => x.1) (backToKw pos (keywordEach kws env)) = js ∧ ((backToKw pos (keywordEach kws env)).any fun x => x.1.isNone) = false
  | [], js, h => by cases h; exact ⟨rfl, rfl, rfl⟩
  | ⟨some x, e, p⟩ :: r, js, h => by
    unfold kwNames at h
    cases q : kwNames r with
    | none => rw [q] at h; cases h
    | some js' =>
      rw [q] at h; cases h
      obtain ⟨h1, h2, h3⟩ := kw_all (pos := pos) (env := env) q
      refine ⟨?_, ?_, ?_⟩
      · show (true && (backToKw pos (keywordEach r env)).all fun x => x.1.isSome) = true
        rw [h1]; rfl
      · show (x :: List.filterMap (fun x => x.1) (backToKw pos (keywordEach r env))) = _
        rw [h2]
      · show (false || (backToKw pos (keywordEach r env)).any fun x => x.1.isNone) = false
        rw [h3]; rfl
  | ⟨none, e, p⟩ :: r, js, h => by simp [kwNames] at h
theorem kw_len : ∀ {kws : List Keyword} {js : List Str}, kwNames kws = some js → js.length = kws.length
  | [], js, h => by cases h; rfl
  | ⟨some x, e, p⟩ :: r, js, h => by
    unfold kwNames at h
    cases q : kwNames r with
    | none => rw [q] at h; cases h
    | some js' => rw [q] at h; cases h; simp [kw_len q]
  | ⟨none, e, p⟩ :: r, js, h => by simp [kwNames] at h
theorem trK_len {cf : CF} {tc : TC} : ∀ {n : Nat} {ks : List Keyword} {ρ : Env} {S : Store} {ds : List D} {S1 : Store}, trK n tc ks cf ρ S = .ok ds S1 → ds.length = ks.length
  | 0, _, _, _, _, _, h => by simp [trK, aErr] at h
  | n + 1, [], _, _, _, _, h => by
    rw [trK] at h
    simp only [mNil, Res.ok.injEq] at h
    rw [← h.1]; rfl
  | n + 1, ⟨_, e, _⟩ :: r, ρ, S, ds, S1, h => by
    rw [trK] at h
    have h : ((trE n tc e cf ρ S).bind fun x S1 => (trK n tc r cf ρ S1).bind fun xs S2 => .ok (x :: xs) S2) = .ok ds S1 := h
    cases q : trE n tc e cf ρ S with
    | err => rw [q] at h; cases h
    | exc c S2 => rw [q] at h; cases h
    | ok d S2 =>
      rw [q, bind_ok] at h
      cases q2 : trK n tc r cf ρ S2 with
      | err => rw [q2] at h; cases h
      | exc c S3 => rw [q2] at h; cases h
      | ok ds' S3 =>
        rw [q2, bind_ok] at h
        cases h
        simp [trK_len q2]
theorem snd_A (ih : Snd n) (C : CtxOk X g W cf tc k) (es : List Expr) : PAq X g W cf es (trA (n + 1) tc es) := by
  rw [trA.eq_def]
  cases es with
  | nil => exact qa_nil
  | cons e r =>
    show PAq X g W cf (e :: r) (if isStar e then aErr else mCons (trE n tc e) (trA n tc r))
    cases h : isStar e with
    | true => exact pa_err
    | false => exact qa_cons (ih.E C e) (ih.A C r) (star_cons h)
theorem snd_K (ih : Snd n) (C : CtxOk X g W cf tc k) (ks : List Keyword) : PK X ks (tA X.K g W cf (trK (n + 1) tc ks)) := by
  rw [trK.eq_def]
  cases ks with
  | nil => exact q_pk_nil
  | cons e r =>
    obtain ⟨nm, v, p⟩ := e
    exact q_pk_cons (ih.E C v) (ih.K C r)
theorem snd_P (ih : Snd n) (C : CtxOk X g W cf tc k) (o : Option Expr) : POq X g W cf o (trP (n + 1) tc o) := by
  rw [trP.eq_def]
  cases o with
  | none => exact qo_none
  | some e => exact qo_some (ih.E C e)
theorem snd_B (ih : Snd n) (C : CtxOk X g W cf tc k) (op : BoolOp) (vs : List Expr) (pos : Pos) : PEq X g W cf (.BoolOp op vs pos) (trB (n + 1) tc op vs) := by
  rw [trB.eq_def]
  match op, vs with
  | op, [] => cases op <;> exact pe_err
  | op, [a] => cases op <;> exact q_one (ih.E C a)
  | .And, a :: b :: r => exact q_and (ih.E C a) (ih.B C .And (b :: r) pos)
  | .Or, a :: b :: r => exact q_or (ih.E C a) (ih.B C .Or (b :: r) pos)
theorem snd_W (ih : Snd n) (C : CtxOk X g W cf tc k) (op : BoolOp) (vs : List Expr) (pos : Pos) : PWq X g W cf (.BoolOp op vs pos) (trW (n + 1) tc op vs) := by
  rw [trW.eq_def]
  match op, vs with
  | op, [] => cases op <;> exact pw_err
  | .And, [a] => exact qw_and1 (ih.T C a)
  | .Or, [a] => exact qw_or1 (ih.T C a)
  | .And, a :: b :: r => exact qw_and (ih.T C a) (ih.Wd C .And (b :: r) pos)
  | .Or, a :: b :: r => exact qw_or (ih.T C a) (ih.Wd C .Or (b :: r) pos)
theorem snd_T (ih : Snd n) (C : CtxOk X g W cf tc k) (e : Expr) : PTq X g W cf e (trT (n + 1) tc e) := by
  rw [trT.eq_def]
  dsimp only
  split
  · exact qt_w (ih.Wd C _ _ _)
  · exact qt_not (ih.T C _)
  · split
    · exact pt_err
    · rename_i h; exact qt_cmp (o_cmpD C _) (ih.E C _) (ih.E C _) (by simpa using h)
  · split
    · exact pt_err
    · rename_i h; exact qt_chain (o_cmpD C _) (o_cmpD C _) (ih.E C _) (ih.E C _) (ih.E C _) (by simpa using h)
  · exact qt_val (ih.E C _) fun _ => rfl
  · exact qt_val (ih.E C _) fun _ => rfl
  · exact qt_val (ih.E C _) fun _ => rfl
  · exact pt_err
theorem gl_range (C : CtxOk X g W cf tc k) {x : Str} (h : isRange tc x = true) : x = "range" ∧ Gl X "range" ∧ X.mg "range" = none := by
  unfold isRange at h
  simp only [Bool.and_eq_true, decide_eq_true_eq] at h
  exact ⟨h.1, C.gl h.2.1, C.blt _ h.2.2⟩
theorem snd_I (ih : Snd n) (C : CtxOk X g W cf tc k) (tg e : Expr) : PIq X g W cf tg e (trI (n + 1) tc e) := by
  rw [trI.eq_def]
  dsimp only
  split
  · split
    · rename_i h
      obtain ⟨rfl, h1, h2⟩ := gl_range C h
      split
      · exact pi_err
      · rename_i q
        exact qi_range1 h1 h2 (ih.A C _) (star_cons (by simpa using q))
    · exact qi_seq (ih.E C _)
  · split
    · rename_i h
      obtain ⟨rfl, h1, h2⟩ := gl_range C h
      split
      · exact pi_err
      · rename_i q
        simp only [Bool.or_eq_true, not_or, Bool.not_eq_true] at q
        have hb := star_cons (es := []) (env := X.env) q.2
        exact qi_range2 h1 h2 (ih.A C _) (by rw [star_cons q.1, hb]; rfl) hb
    · exact qi_seq (ih.E C _)
  · split
    · rename_i h
      obtain ⟨rfl, h1, h2⟩ := gl_range C h
      split
      · exact pi_err
      · rename_i q
        simp only [Bool.or_eq_true, not_or, Bool.not_eq_true] at q
        exact qi_range3 h1 h2 (ih.A C _) (star_cons q.1.1) (star_any (by simp [q.1.2, q.2]))
    · exact qi_seq (ih.E C _)
  · exact qi_seq (ih.E C _)
theorem qg_trGs (C : CtxOk X g W cf tc k) : ∀ {es : List Expr} {is : List Nat}, trGs tc es = some is → PGsq X g es is
  | [], is, h => by cases h; exact qgs_nil
  | e :: r, is, h => by
    unfold trGs at h
    split at h
    · rename_i heq; cases heq
    · rename_i x p r' heq
      cases heq
      split at h
      · rename_i ha
        cases hi : ixN x tc.N with
        | none => rw [hi] at h; cases h
        | some i =>
          cases hr : trGs tc r with
          | none => rw [hi, hr] at h; cases h
          | some is' =>
            rw [hi, hr] at h
            cases h
            exact qgs_cons C.ndX (C.ix hi) (C.loc ha) (C.fn _ ha) (qg_trGs C hr)
      · cases h
    · cases h
theorem qg_trG (C : CtxOk X g W cf tc k) {tg : Expr} {is : List Nat} {G : TGT} (h : trG tc tg = some (is, G)) : PGq X g tg is G := by
  unfold trG at h
  split at h
  · rename_i x p
    split at h
    · rename_i ha
      cases hi : ixN x tc.N with
      | none => rw [hi] at h; cases h
      | some i =>
        rw [hi] at h
        cases h
        exact qg_name C.ndX (C.ix hi) (C.loc ha) (C.fn _ ha)
    · cases h
  · rename_i es _ _
    cases hr : trGs tc es with
    | none => rw [hr] at h; cases h
    | some is' =>
      rw [hr] at h
      cases h
      exact qg_tup C.calm (qg_trGs C hr)
  · cases h
theorem fold_set {e : Expr} {env : PySem.Env} (h : isSet e = false) (x : Value) : foldedSetIterable e env x = pure x := by
  cases e <;> first | rfl | (simp [isSet] at h)
theorem pts_yes {X : Cx} : PTs X [] (tT X.K g W0 cf tYes) := ⟨fun pins s σ H Q I ⟨ρ, μ, S, er, sr, p⟩ => pts_nil.run pins s σ H Q I (p.ok sr rfl)⟩
theorem snd_Lc (ih : Snd n) (C : CtxOk X g W cf tc k) (elt tg iter : Expr) (ifs : List Expr) (scope : Scope) (pos : Pos) : PEq X g W cf (.ListComp elt [⟨tg, iter, ifs, 0⟩] scope pos) (trLc (n + 1) tc elt tg iter ifs scope) := by
  rw [trLc.eq_def]
  dsimp only
  split
  · exact pe_err
  · rename_i hb
    simp only [Bool.or_eq_true, not_or, Bool.not_eq_true, Bool.not_eq_true', Bool.not_eq_false] at hb
    split
    · rename_i is G hg
      split
      · rename_i hw
        have hw : ∀ i ∈ is, i ∈ (ownOf tc.N scope.names).map (·.2) := fun i hi => by
          have := List.all_eq_true.mp hw i hi
          simpa using this
        have cb := fun s H A cl fp => ctx_blk C scope s H A cl fp
        split
        · exact (q_lc (T := tYes) (tt := tT X.K g W0 cf tYes) C.calm C.ndX (ih.I C tg iter) (blk_ok C hb.1) (fun s H A cl fp => qg_trG (cb s H A cl fp) hg) hw (fun s H A cl fp => pts_yes) (fun s H A cl fp => ih.E (cb s H A cl fp) elt) (fold_set hb.2)).1
        · rename_i t
          exact (q_lc (tt := tT X.K g W0 cf (trT n (blkTC tc scope) t)) C.calm C.ndX (ih.I C tg iter) (blk_ok C hb.1) (fun s H A cl fp => qg_trG (cb s H A cl fp) hg) hw (fun s H A cl fp => pts_one (ih.T (cb s H A cl fp) _)) (fun s H A cl fp => ih.E (cb s H A cl fp) elt) (fold_set hb.2)).1
        · exact pe_err
      · exact pe_err
    · exact pe_err
theorem gl_of (C : CtxOk X g W cf tc k) {x : Str} (h : ¬ (bad x || !isGl tc x) = true) : bad x = false ∧ isGl tc x = true := by
  simpa using h
theorem snd_E (ih : Snd n) (C : CtxOk X g W cf tc k) (e : Expr) : PEq X g W cf e (trE (n + 1) tc e) := by
  rw [trE.eq_def]
  dsimp only
  split
  · exact q_trN C
  · exact q_trC
  · split
    · rename_i h; exact q_op (o_opD h) (ih.E C _) (ih.E C _)
    · exact pe_err
  · exact q_un o_neg (ih.E C _)
  · exact q_not (ih.E C _)
  · split
    · exact pe_err
    · rename_i h; exact q_cmp (o_cmpD C _) (ih.E C _) (ih.E C _) (by simpa using h)
  · split
    · exact pe_err
    · rename_i h; exact q_chain (o_cmpD C _) (o_cmpD C _) (ih.E C _) (ih.E C _) (ih.E C _) (by simpa using h)
  · exact ih.B C _ _ _
  · exact q_ifExp (ih.T C _) (ih.E C _) (ih.E C _)
  · exact q_tup (ih.A C _)
  · exact q_lst (ih.A C _)
  · exact q_slice o_sl (ih.E C _) (ih.P C _) (ih.P C _)
  · exact pe_err
  · rename_i h1 h2
    exact q_ix (o_ix C.G) (ih.E C _) (ih.E C _) (plain_ix fun lo hi st p q => by
      cases st with
      | none => exact h1 lo hi p q
      | some s => exact h2 lo hi s p q)
  · split
    · exact pe_err
    · rename_i h
      obtain ⟨hb, hg⟩ := gl_of C h
      split
      · rename_i m hm
        obtain ⟨f, fd, ps, h1, h2, h3, h4, h5, h6⟩ := C.fns _ _ hm
        exact q_call0 h4 C.gu C.room (C.gl hg) h1 h2 h3 C.tk h5 (bad_split hb).1
      · exact pe_err
  · split
    · exact pe_err
    · rename_i h
      obtain ⟨hb, hg⟩ := gl_of C h
      split
      · rename_i m js hm hj
        split
        · rename_i pm hp
          obtain ⟨f, fd, ps, h1, h2, h3, h4, h5, h6⟩ := C.fns _ _ hm
          obtain ⟨k1, k2, k3⟩ := kw_all (pos := _) (env := X.env) hj
          exact q_callK h4 C.gu C.room (C.gl hg) h1 h2 (h6 _ _ hp) C.tk h5 (ih.K C _) (fun ρ S ds S1 q => by rw [trK_len q, kw_len hj]) (bad_split hb).1 k1 k2 (by rw [k3]; rfl)
        · exact pe_err
      · exact pe_err
  · split
    · exact pe_err
    · rename_i h
      obtain ⟨hb, hg⟩ := gl_of C h
      split
      · rename_i hx
        subst hx
        split
        · split
          · rename_i y p2 T hT
            split
            · rename_i hc
              simp only [Bool.and_eq_true, Bool.not_eq_true'] at hc
              obtain ⟨⟨⟨c1, c2⟩, c3⟩, c4⟩ := hc
              obtain ⟨b1, b2⟩ := isiT_boot hT
              exact q_isi C.G (ih.E C _) (C.gl hg) (C.blt _ c1) (C.gl c3) (C.blt _ c2) b1 (bad_split b2).2.2 (bad_split b2).1 (star_cons c4)
            · exact pe_err
          · exact pe_err
        · exact pe_err
      · split
        · rename_i hm
          split
          · rename_i bl f hbl
            split
            · exact pe_err
            · rename_i hs
              exact q_blt C hbl hb hg hm (ih.A C _) (by simpa using hs)
          · exact pe_err
        · split
          · rename_i m hm
            split
            · exact pe_err
            · rename_i hs
              have hs2 := hs
              simp only [List.any_cons, Bool.or_eq_true, not_or, Bool.not_eq_true] at hs2
              obtain ⟨f, fd, ps, h1, h2, h3, h4, h5, h6⟩ := C.fns _ _ hm
              exact q_call h4 C.gu C.room (C.gl hg) h1 h2 h3 C.tk h5 (ih.A C _) (bad_split hb).1 (star_cons hs2.1) (star_any hs2.2)
          · exact pe_err
  · split
    · rename_i T id f hm
      split
      · exact pe_err
      · rename_i h
        rw [Bool.or_eq_true, Bool.or_eq_true, Bool.or_eq_true, not_or, not_or, not_or, Bool.not_eq_true, Bool.not_eq_true, Bool.not_eq_true, Bool.not_eq_true, Bool.not_eq_false', Bool.not_eq_false', decide_eq_true_eq] at h
        obtain ⟨⟨⟨c1, c2⟩, c3⟩, c4⟩ := h
        exact q_methD C hm c1 c2 c3 c4 (ih.E C _) (ih.A C _)
    · exact pe_err
  · exact ih.Lc C _ _ _ _ _ _
  · exact pe_err
theorem snd : ∀ n, Snd n
  | 0 => snd_zero
  | n + 1 => have ih := snd n
    { E := fun C e => snd_E ih C e, Lc := fun C a b c d e p => snd_Lc ih C a b c d e p, B := fun C op vs p => snd_B ih C op vs p, T := fun C e => snd_T ih C e, Wd := fun C op vs p => snd_W ih C op vs p, A := fun C es => snd_A ih C es,
      K := fun C ks => snd_K ih C ks, P := fun C o => snd_P ih C o, I := fun C tg e => snd_I ih C tg e }
end
end Q
namespace Q
open PySem L2
section
variable {X : Cx} {g : Sig} {W : WX} {cf : CF} {tc : TC} {k : Nat}
structure SndS (n : Nat) : Prop where
  S : ∀ {X g W cf tc k}, CtxOk X g W cf tc k → PassesOwn (model X.prog X.w) X.A X.env X.xe → ∀ s, PSq X g W cf s (trS n tc s)
  Ss : ∀ {X g W cf tc k}, CtxOk X g W cf tc k → PassesOwn (model X.prog X.w) X.A X.env X.xe → ∀ s, PSsq X g W cf s (trSs n tc s)
theorem sw_none {e : Expr} {t : Option Expr} {l : Nat} {env : PySem.Env} (h : isComp e = false) : swapsWith e t l env = pure false := by
  cases e <;> first | rfl | (simp [isComp] at h)
theorem sws_none {e t : Expr} {l : Nat} {env : PySem.Env} (h : isComp e = false) : swapsWithSole [t] e l env = pure false := by
  show swapsWith e (some t) l env = _
  exact sw_none h
theorem par_ok (C : CtxOk X g W cf tc k) {x y : Str} {px py : Pos} {e1 e2 : Expr} (h : parOk tc x y px py e1 e2 = true) :
    X.env.scope.names.lookup x = some .local ∧ X.env.scope.names.lookup y = some .local ∧ x ≠ y ∧ ∀ (pt pt2 : Pos) (kt k2 : Nat), swappedStores [.Tuple [.Name x px, .Name y py] kt pt] (.Tuple [e1, e2] k2 pt2) X.env = pure (some [x, y]) := by
  unfold parOk isLoc at h
  simp only [Bool.and_eq_true, Bool.not_eq_true', decide_eq_true_eq, decide_eq_false_iff_not] at h
  obtain ⟨⟨⟨⟨⟨⟨⟨⟨h1, h2⟩, h3⟩, h4⟩, h5⟩, h6⟩, h7⟩, h8⟩, h9⟩ := h
  rw [C.sc]
  refine ⟨h2, h3, h5, fun pt pt2 kt k2 => ?_⟩
  have hb : X.env.blockKind = .function := by unfold Env.blockKind; rw [C.sc, h1]; rfl
  have kx : X.env.kindOf x = some .local := by unfold Env.kindOf; rw [C.sc]; exact h2
  have ky : X.env.kindOf y = some .local := by unfold Env.kindOf; rw [C.sc]; exact h3
  have hl : (py.line == px.line) = true := by
    rw [beq_iff_eq] at h4 ⊢
    exact h4.symm
  have er : [x, y].eraseDups.length = 2 := by
    have hyx : (y == x) = false := by simpa using fun e => h5 (Eq.symm e)
    simp [List.eraseDups_cons, hyx]
  unfold swappedStores
  simp only [hb, kx, ky, hl, Expr.pos, List.head?_cons, Option.map_some, Option.getD_some, List.filterMap_cons, List.filterMap_nil, beq_self_eq_true, Bool.and_self, if_true, Bool.true_and]
  simp only [er, List.all_cons, List.all_nil, Bool.and_true, h8, h9, List.length_cons, List.length_nil]
  rw [if_neg (by decide), if_neg, if_neg (by decide), if_neg (by decide), if_neg (by decide)]
  intro q
  rw [List.any_cons, List.any_cons, Bool.or_eq_true, Bool.or_eq_true] at q
  rcases q with q | q | q
  · cases e1 <;> first | (exfalso; simp [isStar] at h6; done) | exact absurd q Bool.false_ne_true
  · cases e2 <;> first | (exfalso; simp [isStar] at h7; done) | exact absurd q Bool.false_ne_true
  · cases q
theorem snd_Ss {n : Nat} (ih : SndS n) (C : CtxOk X g W cf tc k) (hp : PassesOwn (model X.prog X.w) X.A X.env X.xe) (ss : List Stmt) : PSsq X g W cf ss (trSs (n + 1) tc ss) := by
  rw [trSs.eq_def]
  match ss with
  | [] => exact qs_nil
  | [s] => exact qs_one (ih.S C hp s)
  | s :: t :: r => exact qs_cons (ih.S C hp s) (ih.Ss C hp (t :: r))
theorem assign_one {t : Expr} {env : PySem.Env} (h : isStar t = false) : (assignEach [t] env).map (·.2) = [assign t env] := by
  cases t <;> first | rfl | (simp [isStar] at h)
theorem swp_none {ts : List Expr} {e : Expr} {env : PySem.Env} (h : ∀ es k p, e ≠ .Tuple es k p) : swappedStores ts e env = pure none := by
  unfold swappedStores
  split
  · rename_i q
    split at q
    · exact absurd rfl (h _ _ _)
    · exact absurd rfl (h _ _ _)
    · cases q
  · rfl
theorem swp_sub {o i e : Expr} {p : Pos} {env : PySem.Env} : swappedStores [.Subscript o i p] e env = pure none := by
  unfold swappedStores
  cases e <;> rfl
theorem asg_sub {o i : Expr} {p : Pos} {env : PySem.Env} (h : isSlice i = false) (v : Value) : assign (.Subscript o i p) env v = (do
      let ov ← holding [v] (eval o env)
      let iv ← holding [v, ov] (eval i env)
      standAt p
      holding [v, ov, iv] (setItem ov iv v)
      release [v, ov, iv] []) := by
  cases i <;> first | rfl | (simp [isSlice] at h)
theorem snd_S {n : Nat} (ih : SndS n) (C : CtxOk X g W cf tc k) (hp : PassesOwn (model X.prog X.w) X.A X.env X.xe) (s : Stmt) : PSq X g W cf s (trS (n + 1) tc s) := by
  rw [trS.eq_def]
  dsimp only
  have E := (snd n).E C
  split
  · split
    · exact ps_err
    · rename_i h; exact qs_expr (E _) (sw_none (by simpa using h))
  · exact qs_ret (E _)
  · exact qs_if ((snd n).T C _) (ih.Ss C hp _) (ih.Ss C hp _)
  · exact qs_while hp ((snd n).T C _) (ih.Ss C hp _)
  · split
    · exact ps_err
    · rename_i hs
      split
      · rename_i is G hg
        exact qs_for hp C.calm ((snd n).I C _ _) (qg_trG C hg) (ih.Ss C hp _) (fold_set (by simpa using hs))
      · exact ps_err
  · exact qs_pass
  · exact qs_break
  · exact qs_cont
  · split
    · exact ps_err
    · rename_i h
      simp only [Bool.or_eq_true, not_or, Bool.not_eq_true, Bool.not_eq_true', Bool.not_eq_false] at h
      split
      · rename_i i hi
        exact qs_set C.ndX (C.ix hi) (C.loc h.2) (E _) (sw_none h.1) (C.fn _ h.2)
      · exact ps_err
  · split
    · rename_i h
      split
      · rename_i i j hi hj
        obtain ⟨h1, h2, h3, h4⟩ := par_ok C h
        have hij : i ≠ j := fun q => by
          subst q
          have a := C.ix hi
          have b := C.ix hj
          rw [a] at b
          exact h3 (Option.some.inj b)
        exact qs_par C.calm C.ndX (C.ix hi) (C.ix hj) hij h1 h2 ((snd n).A C _) (h4 _ _ _ _) rfl
      · exact ps_err
    · exact ps_err
  · exact ps_err
  · rename_i hne
    split
    · exact ps_err
    · rename_i h
      split
      · rename_i is G hg
        exact qs_asg (E _) (qg_trG C hg) (sws_none (by simpa using h)) (swp_none fun es k p q => hne es k p q) (assign_one rfl)
      · exact ps_err
  · split
    · exact ps_err
    · rename_i h
      simp only [Bool.or_eq_true, not_or, Bool.not_eq_true] at h
      exact qs_put (E _) (E _) (E _) o_put (fun v => asg_sub h.2 v) (sws_none h.1) swp_sub (assign_one rfl)
  · split
    · exact ps_err
    · rename_i h
      split
      · rename_i i f hi hf
        rw [Bool.not_eq_true, Bool.not_eq_false'] at h
        have ha := h
        exact qs_aug C.ndX (C.ix hi) (C.loc ha) (E _) (o_iopD hf) (C.fn _ ha)
      · exact ps_err
  · exact ps_err
theorem sndS : ∀ n, SndS n
  | 0 => ⟨fun _ _ _ => by rw [trS]; exact ps_err, fun _ _ _ => by rw [trSs]; exact pss_err⟩
  | n + 1 => ⟨fun C hp s => snd_S (sndS n) C hp s, fun C hp s => snd_Ss (sndS n) C hp s⟩
end
end Q
namespace Q
open PySem L2
/-- a def of the text: its name, its statement, its slots, its parameters -/
structure Row where
  x : Str
  st : Stmt
  N : List Str
  ps : List Str
/-- the whole text: the defs, the built-in names that are used, the constants, the keyword calls -/
structure Txt where
  rows : List Row
  blt : List Str
  cst : List (Str × D)
  kws : List (Nat × List Str × List Nat)
def fnsOf : Nat → List Row → List (Str × Nat)
  | _, [] => []
  | i, r :: rs => (r.x, i) :: fnsOf (i + 1) rs
def tcOf (T : Txt) (r : Row) : TC := ⟨r.N, defScope r.st, (defScope r.st).names, T.blt, T.cst, fnsOf 0 T.rows, T.kws⟩
def FUEL : Nat := 40
def fnOf (T : Txt) (r : Row) : Fn := ⟨r.ps.length, r.N.length, trSs FUEL (tcOf T r) (defBody r.st)⟩
def tabOf (T : Txt) (n : Nat) : Option Fn := (T.rows[n]?).map (fnOf T)
structure RowOk (K : PySem.W.Frag) (mg : Str → Option Value) (T : Txt) (n : Nat) (r : Row) (f : Addr) (fd : FuncData) : Prop where
  at_ : mg r.x = some (.ref f)
  fn : Fun K r.x r.x r.st f fd
  sc : FnScope r.N r.ps (defScope r.st)
  bd : Binds K fd r.ps []
  kw : ∀ ks pm, kwFind n ks T.kws = some pm → KwOk K fd r.ps ks pm
structure TxtOk (K : PySem.W.Frag) (w : World) (mg : Str → Option Value) (g : Sig) (T : Txt) : Prop where
  rows : ∀ (n : Nat) (r : Row), T.rows[n]? = some r → ∃ f fd, RowOk K mg T n r f fd
  blt : ∀ x, T.blt.contains x = true → mg x = none
  cst : ∀ x d, T.cst.lookup x = some d → ∃ u v, mg x = some u ∧ RelV v u ∧ ∀ H μ, IsV K g.G H μ d v
  G : GOk K w g
theorem fnsOf_get {x : Str} : ∀ {rs : List Row} {i n : Nat}, (fnsOf i rs).lookup x = some n → ∃ r, i ≤ n ∧ rs[n - i]? = some r ∧ r.x = x
  | [], _, _, h => by simp [fnsOf] at h
  | r :: rs, i, n, h => by
    unfold fnsOf at h
    rw [List.lookup_cons] at h
    cases e : (x == r.x) with
    | true =>
      rw [e] at h
      have h : i = n := Option.some.inj h
      subst h
      exact ⟨r, Nat.le_refl _, by simp, (beq_iff_eq.mp e).symm⟩
    | false =>
      rw [e] at h
      obtain ⟨r', h1, h2, h3⟩ := fnsOf_get (i := i + 1) h
      refine ⟨r', by omega, ?_, h3⟩
      have : n - i = (n - (i + 1)) + 1 := by omega
      rw [this, List.getElem?_cons_succ]
      exact h2
theorem fnG_all {P : Program} {w : World} {K : PySem.W.Frag} {mg : Str → Option Value} {base : Heap} {g : Sig} {T : Txt} (ok : TxtOk K w mg g T) :
    ∀ (k n : Nat) (r : Row) (f : Addr) (fd : FuncData), T.rows[n]? = some r → RowOk K mg T n r f fd → FnG P w K mg base k f fd r.ps (spF K g (callN (tabOf T) k) n r.ps.length)
  | 0, n, r, f, fd, _, _ => fnG_zero
  | k + 1, n, r, f, fd, hn, ro => by
    have ht : tabOf T n = some (fnOf T r) := by unfold tabOf; rw [hn]; rfl
    refine fnG_succ ro.fn ro.sc ht rfl rfl fun cdv A outer s H E hg hr => ?_
    have C : CtxOk (cxOf (L2.CX P w) P w K mg base r.N r.x (defScope r.st) f cdv A outer s H E) g (fun cls d _ H => E cls d H) (callN (tabOf T) k) (tcOf T r) k :=
      { hN := rfl, nd := ro.sc.nd, sc := rfl, fn := fun _ _ => .inl rfl, calm := rfl, tk := takes_of rfl rfl rfl rfl, gu := hg, room := hr, G := ok.G, blt := ok.blt, cst := ok.cst,
        fns := fun x m hm => by
          obtain ⟨r', _, h2, h3⟩ := fnsOf_get hm
          rw [Nat.sub_zero] at h2
          obtain ⟨f', fd', ro'⟩ := ok.rows m r' h2
          refine ⟨f', fd', r'.ps, by rw [← h3]; exact ro'.at_, ro'.fn.kp, ro'.bd, fnG_all ok k m r' f' fd' h2 ro', ?_, ro'.kw⟩
          have ht' : tabOf T m = some (fnOf T r') := by unfold tabOf; rw [h2]; rfl
          exact callN_len ht' }
    exact (sndS FUEL).Ss C PassesOwn.leaving (defBody r.st)
/-- the law's call, from the promise of its def: as the library's law_call, for FnG -/
theorem lawG {P : Program} {w : World} {K : PySem.W.Frag} {mg mb : Str → Option Value} {k : Nat} {fa a : Addr} {fd : FuncData} {x : Str} {sp : Sp} {s₁ : Shared} {vs : List Value} {ns : List Int}
    (KX : K.In s₁.heap) (hns : s₁.heap.Ns mainGlobals mg) (hb : s₁.heap.Ns builtinsNs mb) (hbb : ∀ x : Str, x ≠ "__name__" → mb x = bootBuiltins x) (hlim : s₁.heap.NoLimit) (hg : s₁.gens = #[])
    (ha : s₁.heap.get? a = some { cls := .type "list", data := .seq vs.toArray }) (hi : PyProof.Rows.IntsAre vs ns) (hl : ns.length ≤ sizeLine) (hr : Room k PySem.callerA)
    (F : ∀ base : Heap, FnG P w K mg base k fa fd [x] sp) (hbind : ∀ u : Value, BindsTo s₁ fd ⟨[u], []⟩ [(x, u)])
    (hsp : ∀ H : Hp, SqL K H a (ns.map V.int) → (H a = none ∧ KL K a (ns.map V.int) ∨ ∃ o, H a = some (.frz o (.lst (ns.map V.int)))) → sp [.ref a] H (fun v _ => v = .bl true) fun _ _ _ => False) :
    codeAny (model P w) PySem.callerA (.call (.ref fa) ⟨[.ref a], []⟩) (fun r s' => r = .ok (.ret (.bool true)) ∧ PySem.OldK s₁.heap s'.heap ∧ s'.os = s₁.os ∧ PyProof.Rows.AllBare s'.gens) s₁ := by
  have rv := vals_ints hi
  have lenV := hi.length
  let o1 : Obj := { cls := .type "list", data := .seq vs.toArray }
  -- nothing but the script may be told of, and that is not to be changed
  have core : ∀ H : Hp, (∀ b, H b ≠ none → b = a ∧ K.lookup a = none ∧ H b = some (.frz o1 (.lst (ns.map V.int)))) → SqL K H a (ns.map V.int) → HOk P w H s₁.heap →
      (H a = none ∧ KL K a (ns.map V.int) ∨ ∃ o, H a = some (.frz o (.lst (ns.map V.int)))) →
      codeAny (model P w) PySem.callerA (.call (.ref fa) ⟨[.ref a], []⟩) (fun r s' => r = .ok (.ret (.bool true)) ∧ PySem.OldK s₁.heap s'.heap ∧ s'.os = s₁.os ∧ PyProof.Rows.AllBare s'.gens) s₁ := by
    intro H hA hS hok hE
    have get : ∀ {b : Addr} {o : Obj}, s₁.heap.get? b = some o → H b = none → (hidT s₁.heap H).get? b = some o := fun e n => hidT_get e n
    have noH : ∀ {b : Addr}, b ≠ a → H b = none := fun {b} hne => by
      cases q : H b with
      | none => rfl
      | some u => exact absurd (hA b (by rw [q]; simp)).1 hne
    have nsK : ∀ {b : Addr} {m : Str → Option Value}, s₁.heap.Ns b m → (hidT s₁.heap H).Ns b m := fun {b m} ⟨o, es, ep, e, d, r⟩ => ⟨o, es, ep, get e (noH fun e' => by
      subst e'
      rw [ha] at e; cases e
      have d' : Data.seq vs.toArray _ = Data.dict es ep := d
      cases d'), d, r⟩
    have hKb : K.In (hidT s₁.heap H) := fun b o e => get (KX b o e) (by
      cases q : H b with
      | none => rfl
      | some u =>
        obtain ⟨e', n, _⟩ := hA b (by rw [q]; simp)
        subst e'
        rw [n] at e; cases e)
    have hM : Mod K mg (hidT s₁.heap H) := ⟨hKb, nsK hns, ⟨mb, nsK hb, hbb⟩, let ⟨mc, h1, h2⟩ := hlim; ⟨mc, nsK h1, h2⟩⟩
    have e0 : Env0 P w K mg (hidT s₁.heap H) PySem.callerA [] s₁ H := ⟨rfl, hM, fun b o e => of_hidT e, Nat.le_of_eq (hidT_size _ _), trivial, fun b hb => absurd (show b ∈ ([] : List Addr) from hb) (by simp), hok, .of_eq hg⟩
    refine codeAny_mono ((F _).run PySem.callerA [] s₁ H ⟨[.ref a], []⟩ [.ref a] [.ref a] _ _ rfl hr e0 (hbind (.ref a)) (.cons rfl .nil) (hsp H hS hE)) fun r s' h => ?_
    match r, h with
    | .error e, ⟨_, _, _, _, _, _, _, _, _, _, _, _, z⟩ => exact z.elim
    | .ok (.ret u), ⟨v, H', os, bare, un, hok', r', q⟩ =>
      have q' : v = .bl true := q
      subst q'
      obtain rfl : u = Value.bool true := r'
      refine ⟨rfl, PySem.OldK.of_keep fun b o e => ?_, os, bare⟩
      cases q : H b with
      | none => exact un.keep b o e q (by intro z; exact absurd (show b ∈ ([] : List Addr) from z) (by simp)) (by simp)
      | some u =>
        obtain ⟨_, _, z⟩ := hA b (by rw [q]; simp)
        obtain ⟨e1, _⟩ := hok b _ z
        obtain ⟨e2, _⟩ := hok' b _ (un.frzs b o1 _ z)
        rw [e] at e1; cases e1
        exact e2
  cases hk : K.lookup a with
  | some o =>
    have e := KX a o hk
    rw [ha] at e
    cases e
    have kl : KL K a (ns.map V.int) := ⟨_, vs.toArray, _, hk, rfl, rfl, rfl, by rw [List.size_toArray, lenV]; exact hl, by simpa using rv⟩
    exact core (fun _ => none) (fun b z => absurd rfl z) (.inr kl) (fun b u z => by have z' : (none : Option HO) = some u := z; cases z') (.inl ⟨rfl, kl⟩)
  | none =>
    refine core (fun b => if b = a then some (.frz o1 (.lst (ns.map V.int))) else none) (fun b z => ?_) (.inl (.inr ⟨o1, if_pos rfl⟩)) (fun b u z => ?_) (.inr ⟨o1, if_pos rfl⟩)
    · by_cases hb : b = a
      · exact ⟨hb, hk, if_pos hb⟩
      · exact absurd (if_neg hb) z
    · by_cases hb : b = a
      · have z' := (if_pos hb).symm.trans z
        cases z'
        subst hb
        exact ⟨ha, by rw [List.length_map]; exact hl, vs, _, rv, ha⟩
      · have z' := (if_neg hb).symm.trans z
        cases z'
end Q
namespace Q
open PySem L2
def RowsOk (K : PySem.W.Frag) (mg : Str → Option Value) (T : Txt) : Nat → List Row → Prop
  | _, [] => True
  | i, r :: rs => (∃ f fd, RowOk K mg T i r f fd) ∧ RowsOk K mg T (i + 1) rs
theorem RowsOk.get {K : PySem.W.Frag} {mg : Str → Option Value} {T : Txt} : ∀ {rs : List Row} {i n : Nat} {r : Row}, RowsOk K mg T i rs → rs[n]? = some r → ∃ f fd, RowOk K mg T (i + n) r f fd
  | r :: rs, i, 0, r', h, e => by
    simp at e; subst e; exact h.1
  | r :: rs, i, n + 1, r', h, e => by
    simp only [List.getElem?_cons_succ] at e
    have := RowsOk.get (i := i + 1) h.2 e
    rw [show i + 1 + n = i + (n + 1) by omega] at this
    exact this
/-- no keyword call of this def is told of -/
def noKw (n : Nat) : List (Nat × List Str × List Nat) → Bool
  | [] => true
  | (m, _, _) :: r => !decide (m = n) && noKw n r
theorem noKw_ok {n : Nat} {ks : List Str} {pm : List Nat} : ∀ {l : List (Nat × List Str × List Nat)}, noKw n l = true → kwFind n ks l = some pm → False
  | [], _, h => by simp [kwFind] at h
  | (m, js, q) :: r, hn, h => by
    unfold noKw at hn
    simp only [Bool.and_eq_true, Bool.not_eq_true', decide_eq_false_iff_not] at hn
    unfold kwFind at h
    rw [if_neg (fun x => hn.1 x.1)] at h
    exact noKw_ok hn.2 h
def kwsOf (n : Nat) : List (Nat × List Str × List Nat) → List (List Str × List Nat)
  | [] => []
  | (m, js, q) :: r => if m = n then (js, q) :: kwsOf n r else kwsOf n r
theorem kwFind_mem {n : Nat} {ks : List Str} {pm : List Nat} : ∀ {l : List (Nat × List Str × List Nat)}, kwFind n ks l = some pm → (ks, pm) ∈ kwsOf n l
  | (m, js, q) :: r, h => by
    unfold kwFind at h
    unfold kwsOf
    by_cases e : m = n
    · rw [if_pos e]
      by_cases e2 : js = ks
      · rw [if_pos ⟨e, e2⟩] at h
        cases h
        rw [e2]
        exact List.mem_cons_self
      · rw [if_neg fun x => e2 x.2] at h
        exact List.mem_cons_of_mem _ (kwFind_mem h)
    · rw [if_neg e]
      rw [if_neg fun x => e x.1] at h
      exact kwFind_mem h
theorem kwFind_one {n : Nat} {ks js : List Str} {pm qm : List Nat} {l : List (Nat × List Str × List Nat)} (h : kwFind n ks l = some pm) (e : kwsOf n l = [(js, qm)]) : ks = js ∧ pm = qm := by
  have := kwFind_mem h
  rw [e] at this
  have := List.mem_singleton.mp this
  exact Prod.mk.inj this
/-- one def of the text, from the head's facts -/
theorem row_mk {K : PySem.W.Frag} {h : Heap} {mg : Str → Option Value} {T : Txt} {n : Nat} {r : Row} {f : Addr} {od an : Option Addr} {sl : Array (Option Value)} {oc kV dc pm cd ct : Value} (X : K.In h) (G : h.Ns mainGlobals mg)
    (a : PySem.W.nsIn K mainGlobals r.x = some (some (.ref f))) (l : K.lookup f = some ⟨oc, od, .func (PySem.W.fnOf r.x r.x (defArgs r.st) (defBody r.st) (defScope r.st) .none kV dc pm an cd ct), sl⟩) (c : PySem.W.codeIn K cd r.x = true) (k : PySem.W.keepIn K (.ref f) = true)
    (sc : FnScope r.N r.ps (defScope r.st)) (b : ∀ (kV dc pm : Value) (an : Option Addr) (cd ct : Value) (us : List Value), us.length = r.ps.length → bindArgs (PySem.W.fnOf r.x r.x (defArgs r.st) (defBody r.st) (defScope r.st) .none kV dc pm an cd ct) ⟨us, []⟩ = pure (r.ps.zip us))
    (kw : ∀ ks qm, kwFind n ks T.kws = some qm → KwOk K (PySem.W.fnOf r.x r.x (defArgs r.st) (defBody r.st) (defScope r.st) .none kV dc pm an cd ct) r.ps ks qm) : ∃ f fd, RowOk K mg T n r f fd := by
  have F := fun_mk (st := r.st) l c k
  exact ⟨f, _, PySem.W.mg_of X G a, F, sc, F.binds b, kw⟩
theorem vals_pick {zs : List V} {ws : List Value} (h : Vals zs ws) : ∀ pm : List Nat, Vals (pm.map fun i => zs.getD i .non) (pm.map fun i => ws.getD i .none)
  | [] => .nil
  | i :: pm => by
    have one : ∀ {zs : List V} {ws : List Value}, Vals zs ws → ∀ i, RelV (zs.getD i .non) (ws.getD i .none) := by
      intro zs ws h
      induction h with
      | nil => intro i; exact rfl
      | cons a b ih => intro i; cases i with
        | zero => exact a
        | succ i => exact ih i
    exact .cons (one h i) (vals_pick h pm)
theorem kw_mk {K : PySem.W.Frag} {x : Str} {st : Stmt} {ps ks : List Str} {pm : List Nat} {kV dc qm : Value} {an : Option Addr} {cd ct : Value}
    (b : ∀ (ws : List Value), ws.length = ks.length → bindArgs (PySem.W.fnOf x x (defArgs st) (defBody st) (defScope st) .none kV dc qm an cd ct) ⟨[], ks.zip ws⟩ = pure (ps.zip (pm.map fun i => ws.getD i .none))) :
    KwOk K (PySem.W.fnOf x x (defArgs st) (defBody st) (defScope st) .none kV dc qm an cd ct) ps ks pm :=
  ⟨(fun s us ws _ h1 h2 => match us, h1 with
    | [], _ => .of_eq (b ws h2)), fun h1 h2 => vals_pick h2 pm⟩
theorem parts_mk {K : PySem.W.Frag} {w : World} {a : Addr} {es : Array DictEntry} {n : Nat} (l : K.lookup a = some ⟨.type "dict", none, .dict es n, #[]⟩) (e : EntriesAre w.params es.toList partsL) (low : (a == sysModules) = false) : PartsAt K w a := ⟨⟨es, n, l, e⟩, low⟩
/-- constants, one after another -/
def CstOk (K : PySem.W.Frag) (mg : Str → Option Value) (g : Sig) : List (Str × D) → Prop
  | [] => True
  | (x, d) :: r => (∃ u v, mg x = some u ∧ RelV v u ∧ ∀ H μ, IsV K g.G H μ d v) ∧ CstOk K mg g r
theorem CstOk.get {K : PySem.W.Frag} {mg : Str → Option Value} {g : Sig} {x : Str} {d : D} : ∀ {l : List (Str × D)}, CstOk K mg g l → l.lookup x = some d → ∃ u v, mg x = some u ∧ RelV v u ∧ ∀ H μ, IsV K g.G H μ d v
  | (y, e) :: r, h, q => by
    rw [List.lookup_cons] at q
    cases he : (x == y) with
    | true =>
      rw [he] at q
      cases q
      rw [beq_iff_eq.mp he]
      exact h.1
    | false => rw [he] at q; exact CstOk.get h.2 q
def BltOk (mg : Str → Option Value) : List Str → Prop
  | [] => True
  | x :: r => mg x = none ∧ BltOk mg r
theorem BltOk.get {mg : Str → Option Value} {x : Str} : ∀ {l : List Str}, BltOk mg l → l.contains x = true → mg x = none
  | y :: r, h, q => by
    simp only [List.contains_cons, Bool.or_eq_true, beq_iff_eq] at q
    rcases q with rfl | q
    · exact h.1
    · exact BltOk.get h.2 q
theorem txt_mk {K : PySem.W.Frag} {w : World} {mg : Str → Option Value} {g : Sig} {T : Txt} (r : RowsOk K mg T 0 T.rows) (b : BltOk mg T.blt) (c : CstOk K mg g T.cst) (G : GOk K w g) : TxtOk K w mg g T :=
  ⟨fun n r' h => by have := r.get h; rwa [Nat.zero_add] at this, fun x h => b.get h, fun x d h => c.get h, G⟩
/-- the end: what the law's def does with every script -/
theorem endQ {l : PySem.W.OpenLaw} {n k i : Nat} {q : Program} {loose : List Str} {XP : (Str → Option Value) → Heap → Prop} {YP : World → Heap → Prop} {d : DefRec} {K : Params → PySem.W.Frag} {T : Txt} {r : Row} {x : Str}
    (hn : l.most = some n) (hn2 : n ≤ sizeLine) (hdf : d.params.defaults = []) (hr : Room k PySem.callerA)
    (hY : ∀ (w : World) (h : Heap), YP w h → (K w.params).In h)
    (hi : T.rows[i]? = some r) (hx : r.ps = [x]) (hd : r.x = d.name)
    (F : ∀ (w : World) (mg : Str → Option Value) (h : Heap), (K w.params).In h → h.Ns mainGlobals mg → ∃ g, TxtOk (K w.params) w mg g T)
    (plain : ∀ ns : List Int, ns.length ≤ n → (∀ z ∈ ns, Builtin.Int.intBits z ≤ 1048576) → ∃ S, callN (tabOf T) k i [.ref 0] [.rol (ns.map D.int)] = .ok (.bl true) S) :
    PySem.W.WalkO q loose XP YP l.row.toRowW d [] (fun f vs => PySem.call f vs) := by
  refine Att.attach_callB hn hdf fun w s₀ s₁ mg mb fa o pm cd doc a vs ns G Y ho hd' hcd hmg hobj hints hlen hbits hg => ?_
  have KX := hY w _ Y
  obtain ⟨g, ok⟩ := F w mg _ KX G.T.g
  obtain ⟨f, fd, ro⟩ := ok.rows i r hi
  have e := ro.at_
  rw [hd, hmg] at e
  cases e
  have hF : ∀ base : Heap, FnG l.prog w (K w.params) mg base k fa fd [x] (spF (K w.params) g (callN (tabOf T) k) i 1) := fun base => by
    have := fnG_all (P := l.prog) (base := base) ok k i r fa fd hi ro
    rw [hx] at this
    exact this
  have hb : ∀ s : Shared, (K w.params).In s.heap → ∀ u : Value, BindsTo s fd ⟨[u], []⟩ [(x, u)] := fun s hs u => by
    have := ro.bd s [u] hs (by rw [hx]; rfl)
    rw [hx] at this
    exact this
  refine lawG KX G.T.g G.T.b G.T.builtins G.T.nolimit hg hobj hints (Nat.le_trans hlen hn2) hr hF (hb s₁ KX) fun H hS hE => ?_
  obtain ⟨S, hp⟩ := plain ns hlen hbits
  have vi : ∀ ns : List Int, IsVs (K w.params) g.G H [a] (ns.map D.int) (ns.map V.int) := fun ns => by
    induction ns with
    | nil => exact rfl
    | cons z r ih => exact ⟨_, _, rfl, rfl, ih⟩
  refine ⟨rfl, [.ref 0], [a], [.rol (ns.map D.int)], ⟨rfl, fun j ob q => ?_, fun j j' b ds es q => ?_⟩, ⟨_, _, rfl, ⟨a, rfl, rfl⟩, rfl⟩, ?_⟩
  · cases j with
    | succ j => simp at q
    | zero =>
      simp only [List.getElem?_cons_zero, Option.some.injEq] at q
      subst q
      refine ⟨a, rfl, ns.map V.int, ?_, vi ns⟩
      rcases hE with ⟨_, hE⟩ | hE
      · exact .inr hE
      · exact .inl hE
  · cases j with
    | succ j => simp at q
    | zero => simp at q
  · rw [hp]
    exact fun H' μ' b _ _ q => q
end Q
namespace Q
open PySem L2
/-! ### the combinators, step by step -/
section
variable {cf : CF} {ρ : Env} {S S1 S2 : Store} {a b c : SE} {t u : ST} {A : SA} {i n : Nat} {x y z d : D} {xs ds : List D} {s s1 s2 : List Nat} {f f2 : D → D → Store → Res D} {k : Bool}
@[simp] theorem x_var : mVar i cf ρ S = match ρ[i]? with
  | some (some d) => .ok d S
  | _ => .err := rfl
@[simp] theorem x_C : mC d cf ρ S = .ok d S := rfl
@[simp] theorem x_op : mOp f a b cf ρ S = (a cf ρ S).bind fun x S1 => (b cf ρ S1).bind fun y S2 => f x y S2 := rfl
@[simp] theorem x_un {f : D → Store → Res D} : mUn f a cf ρ S = (a cf ρ S).bind fun x S1 => f x S1 := rfl
@[simp] theorem x_nil : mNil cf ρ S = .ok [] S := rfl
@[simp] theorem x_cons : mCons a A cf ρ S = (a cf ρ S).bind fun x S1 => (A cf ρ S1).bind fun xs S2 => .ok (x :: xs) S2 := rfl
@[simp] theorem x_app {f : List D → Store → Res D} : mApp f A cf ρ S = (A cf ρ S).bind fun xs S1 => f xs S1 := rfl
@[simp] theorem x_call : mCall n A cf ρ S = (A cf ρ S).bind fun xs S1 => cf n xs S1 := rfl
@[simp] theorem x_callK {pm : List Nat} : mCallK n pm A cf ρ S = (A cf ρ S).bind fun xs S1 => cf n (pm.map fun i => xs.getD i .non) S1 := rfl
@[simp] theorem x_if : mIf t a b cf ρ S = (t cf ρ S).bind fun k S1 => if k then a cf ρ S1 else b cf ρ S1 := rfl
def k2 (r : Res D) (g : Store → Res D) : D → Store → Res D := fun x S1 => match x with
  | .bl true => g S1
  | .bl false => .ok (.bl false) S1
  | _ => .err
@[simp] theorem x_and : mAnd a b cf ρ S = (a cf ρ S).bind fun x S1 => match x with
  | .bl true => b cf ρ S1
  | .bl false => .ok (.bl false) S1
  | _ => .err := rfl
@[simp] theorem x_or : mOr a b cf ρ S = (a cf ρ S).bind fun x S1 => match x with
  | .bl false => b cf ρ S1
  | .bl true => .ok (.bl true) S1
  | _ => .err := rfl
@[simp] theorem x_not : mNot a cf ρ S = (a cf ρ S).bind fun x S1 => match x with
  | .bl k => .ok (.bl (!k)) S1
  | _ => .err := rfl
@[simp] theorem x_chain : mChain f f2 a b c cf ρ S = (a cf ρ S).bind fun x S1 => (b cf ρ S1).bind fun y S2 => (f x y S2).bind fun z S3 => match z with
  | .bl true => (c cf ρ S3).bind fun w S4 => f2 y w S4
  | .bl false => .ok (.bl false) S3
  | _ => .err := rfl
@[simp] theorem x_tup : mTup A cf ρ S = (A cf ρ S).bind fun xs S1 => newTup xs S1 := rfl
@[simp] theorem x_lst : mLst A cf ρ S = (A cf ρ S).bind fun xs S1 => newLst xs S1 := rfl
@[simp] theorem x_noPart : mNoPart cf ρ S = .ok none S := rfl
@[simp] theorem x_part : mPart a cf ρ S = (a cf ρ S).bind fun x S1 => match x with
  | .int i => .ok (some i) S1
  | _ => .err := rfl
@[simp] theorem x_slice {f : D → Option Int → Option Int → Store → Res D} {l h : SP} : mSlice f a l h cf ρ S = (a cf ρ S).bind fun x S1 => (l cf ρ S1).bind fun lo S2 => (h cf ρ S2).bind fun hi S3 => f x lo hi S3 := rfl
@[simp] theorem x_meth {T : String} {f : D → List D → Store → Res D} : mMeth T f a A cf ρ S = (a cf ρ S).bind fun x S1 => if typeD S1 x = some T then (A cf ρ S1).bind fun xs S2 => f x xs S2 else .err := rfl
@[simp] theorem x_tVal : tVal a cf ρ S = (a cf ρ S).bind fun x S1 => match x with
  | .bl k => .ok k S1
  | _ => .err := rfl
@[simp] theorem x_tAnd : tAnd t u cf ρ S = (t cf ρ S).bind fun k S1 => if k then u cf ρ S1 else .ok false S1 := rfl
@[simp] theorem x_tOr : tOr t u cf ρ S = (t cf ρ S).bind fun k S1 => if k then .ok true S1 else u cf ρ S1 := rfl
@[simp] theorem x_tNot : tNot t cf ρ S = (t cf ρ S).bind fun k S1 => .ok (!k) S1 := rfl
@[simp] theorem x_tYes : tYes cf ρ S = .ok true S := rfl
variable {p q : SS} {G : TGT} {it : SI}
@[simp] theorem x_skip : sSkip cf ρ S = .nxt ρ S := rfl
@[simp] theorem x_seq : sSeq p q cf ρ S = (p cf ρ S).seq fun ρ1 S1 => q cf ρ1 S1 := rfl
@[simp] theorem x_expr : sExpr a cf ρ S = (a cf ρ S).thenS ρ fun _ S1 => .nxt ρ S1 := rfl
@[simp] theorem x_ret : sRet a cf ρ S = (a cf ρ S).thenS ρ fun x S1 => .ret x S1 := rfl
@[simp] theorem x_sIf : sIf t p q cf ρ S = (t cf ρ S).thenS ρ fun k S1 => if k then p cf ρ S1 else q cf ρ S1 := rfl
@[simp] theorem x_asg : sAsg a (gNm i) cf ρ S = (a cf ρ S).thenS ρ fun x S1 => .nxt (ρ.set i (some x)) S1 := rfl
@[simp] theorem x_par {j : Nat} : sPar A [i, j] cf ρ S = (A cf ρ S).thenS ρ fun xs S1 => match xs with
  | [x, y] => .nxt ((ρ.set i (some x)).set j (some y)) S1
  | _ => .err := by
  show ((A cf ρ S).thenS ρ fun xs S1 => _) = _
  congr 1
  funext xs S1
  match xs with
  | [] => rfl
  | [_] => rfl
  | [_, _] => rfl
  | _ :: _ :: _ :: _ => rfl
@[simp] theorem x_aug : sAug i f a cf ρ S = match ρ[i]? with
  | some (some x) => (a cf ρ S).thenS ρ fun y S1 => (f x y S1).thenS ρ fun z S2 => .nxt (ρ.set i (some z)) S2
  | _ => .err := rfl
@[simp] theorem x_put {f : D → D → D → Store → Res Unit} : sPut f a b c cf ρ S = (c cf ρ S).thenS ρ fun v S1 => (a cf ρ S1).thenS ρ fun x S2 => (b cf ρ S2).thenS ρ fun y S3 => (f x y v S3).thenS ρ fun _ S4 => .nxt ρ S4 := rfl
theorem x_for : sFor it G p cf ρ S = (it cf ρ S).thenS ρ fun J S1 => forGo J.holds G (p cf) J.items ρ S1 := rfl
theorem x_while : sWhile t p cf ρ S = whileGo (t cf) (p cf) WT ρ S := rfl
/-! ### a call's end -/
def fin (S : Store) (r : RS) : Res D := match r with
  | .nxt _ S1 => tidy S .non S1
  | .ret d S1 => tidy S d S1
  | .exc c _ S1 => tidyX S c S1
  | _ => .err
@[simp] theorem fin_ret : fin S (.ret d S1) = tidy S d S1 := rfl
@[simp] theorem fin_nxt : fin S (.nxt ρ S1) = tidy S .non S1 := rfl
@[simp] theorem x_run {pn sn : Nat} {body : SS} : runFn ⟨pn, sn, body⟩ cf xs S = if xs.length = pn then fin S (body cf (xs.map some ++ List.replicate (sn - xs.length) none) S) else .err := by
  unfold runFn
  by_cases h : xs.length = pn
  · rw [if_pos h, if_pos h]
    dsimp only
    generalize body cf (xs.map some ++ List.replicate (sn - xs.length) none) S = r
    cases r <;> rfl
  · rw [if_neg h, if_neg h]
theorem oldOk_refl (n : Nat) : ∀ S : Store, oldOk n S S = true
  | [] => rfl
  | o :: S => by simp [oldOk, oldOk_refl n S]
theorem oldOk_app (n : Nat) (T : Store) : ∀ S : Store, oldOk n S (S ++ T) = true
  | [] => rfl
  | o :: S => by
    show ((decide (o = o) || closedOb n o) && oldOk n S (S ++ T)) = true
    rw [oldOk_app n T S]; simp
@[simp] theorem tidy_same : tidy S d S = .ok d S := by
  unfold tidy
  rw [if_pos (oldOk_refl _ S)]
  by_cases h : closed S.length d = true
  · rw [if_pos h, List.take_length]
  · rw [if_neg h]
    cases d with
    | ref k =>
      have : S[k]? = none := by
        rw [List.getElem?_eq_none_iff]
        simp only [closed, decide_eq_true_eq] at h
        omega
      show (match S[k]? with | some o => _ | none => _) = _
      rw [this]
    | _ => rfl
/-- what was laid meanwhile is forgotten -/
theorem tidy_app {T : Store} (h : closed S.length d = true) : tidy S d (S ++ T) = .ok d S := by
  unfold tidy
  rw [if_pos (oldOk_app _ T S), if_pos h]
  simp
/-! ### values -/
@[simp] theorem v_int_lt {i j : Int} : dCmp (fun i j => decide (i < j)) (.int i) (.int j) S = .ok (.bl (decide (i < j))) S := rfl
@[simp] theorem v_cmp {p : Int → Int → Bool} {i j : Int} : dCmp p (.int i) (.int j) S = .ok (.bl (p i j)) S := rfl
@[simp] theorem v_add {i j : Int} : dAdd (.int i) (.int j) S = .ok (.int (i + j)) S := rfl
@[simp] theorem v_sub {i j : Int} : dSub (.int i) (.int j) S = .ok (.int (i - j)) S := rfl
@[simp] theorem v_iadd {i j : Int} : dIadd (.int i) (.int j) S = .ok (.int (i + j)) S := rfl
@[simp] theorem v_neg {i : Int} : dNeg (.int i) S = .ok (.int (-i)) S := rfl
@[simp] theorem v_eqS {s1 s2 : List Nat} : dEq (.str s1) (.str s2) S = .ok (.bl (decide (s1 = s2))) S := rfl
@[simp] theorem v_eqI {i j : Int} : dEq (.int i) (.int j) S = .ok (.bl (decide (i = j))) S := rfl
@[simp] theorem v_neS {s1 s2 : List Nat} : dNe (.str s1) (.str s2) S = .ok (.bl (!decide (s1 = s2))) S := rfl
@[simp] theorem v_neI {i j : Int} : dNe (.int i) (.int j) S = .ok (.bl (!decide (i = j))) S := rfl
@[simp] theorem v_is : dIs x .non S = .ok (.bl (isNon x)) S := rfl
@[simp] theorem v_isnot : dIsNot x .non S = .ok (.bl (!isNon x)) S := rfl
@[simp] theorem n_non : isNon .non = true := rfl
@[simp] theorem n_int {i : Int} : isNon (.int i) = false := rfl
@[simp] theorem n_str : isNon (.str s) = false := rfl
@[simp] theorem n_tup : isNon (.tup ds) = false := rfl
@[simp] theorem n_ref : isNon (.ref n) = false := rfl
@[simp] theorem v_lenT : dLen [.tup ds] S = .ok (.int ds.length) S := rfl
@[simp] theorem v_int {i : Int} : dInt [.int i] S = .ok (.int i) S := rfl
@[simp] theorem v_slT {lo hi : Option Int} : dSl (.tup ds) lo hi S = .ok (.tup (cutL ds lo hi)) S := rfl
@[simp] theorem v_tupT : dTuple [.tup ds] S = .ok (.tup ds) S := rfl
@[simp] theorem v_newTup0 : newTup [] S = .ok (.tup []) S := rfl
@[simp] theorem v_newTup1 : newTup [x] S = .ok (.tup [x]) S := rfl
@[simp] theorem v_newTup2 : newTup [x, y] S = .ok (.tup [x, y]) S := rfl
@[simp] theorem v_newTup3 : newTup [x, y, z] S = .ok (.tup [x, y, z]) S := rfl
@[simp] theorem v_newTup4 {w : D} : newTup [x, y, z, w] S = .ok (.tup [x, y, z, w]) S := rfl
@[simp] theorem i_tt : dIsi "tuple" (.tup ds) S = .ok (.bl true) S := rfl
@[simp] theorem i_ti {i : Int} : dIsi "tuple" (.int i) S = .ok (.bl false) S := rfl
@[simp] theorem i_ts : dIsi "tuple" (.str s) S = .ok (.bl false) S := rfl
@[simp] theorem i_ss : dIsi "str" (.str s) S = .ok (.bl true) S := rfl
@[simp] theorem i_st : dIsi "str" (.tup ds) S = .ok (.bl false) S := rfl
@[simp] theorem i_si {i : Int} : dIsi "str" (.int i) S = .ok (.bl false) S := rfl
@[simp] theorem i_ii {i : Int} : dIsi "int" (.int i) S = .ok (.bl true) S := rfl
@[simp] theorem i_it : dIsi "int" (.tup ds) S = .ok (.bl false) S := rfl
@[simp] theorem i_is : dIsi "int" (.str s) S = .ok (.bl false) S := rfl
@[simp] theorem i_bi {i : Int} : dIsi "bool" (.int i) S = .ok (.bl false) S := rfl
@[simp] theorem t_str : typeD S (.str s) = some "str" := rfl
@[simp] theorem t_glb : typeD S (.glb 0) = some "dict" := rfl
@[simp] theorem ix0 : dIx (.tup (x :: ds)) (.int 0) S = .ok x S := by
  show (match atI (x :: ds) 0 with | some d => Res.ok d S | none => .err) = _
  have : atI (x :: ds) 0 = some x := by
    unfold atI L2.ixN
    rw [if_pos (Int.le_refl 0), if_pos (by simp only [List.length_cons]; omega)]
    rfl
  rw [this]
@[simp] theorem ix1 : dIx (.tup (x :: y :: ds)) (.int 1) S = .ok y S := by
  show (match atI (x :: y :: ds) 1 with | some d => Res.ok d S | none => .err) = _
  have : atI (x :: y :: ds) 1 = some y := by
    unfold atI L2.ixN
    rw [if_pos (by decide), if_pos (by simp only [List.length_cons]; omega)]
    rfl
  rw [this]
@[simp] theorem ix2 : dIx (.tup (x :: y :: z :: ds)) (.int 2) S = .ok z S := by
  show (match atI (x :: y :: z :: ds) 2 with | some d => Res.ok d S | none => .err) = _
  have : atI (x :: y :: z :: ds) 2 = some z := by
    unfold atI L2.ixN
    rw [if_pos (by decide), if_pos (by simp only [List.length_cons]; omega)]
    rfl
  rw [this]
@[simp] theorem cut1 : cutL (x :: ds) (some 1) none = ds := by
  show ((x :: ds).drop (min 1 (x :: ds).length)).take ((x :: ds).length - min 1 (x :: ds).length) = ds
  simp
theorem dec_and (a b : Bool) : (a && b) = (if a then b else false) := by cases a <;> rfl
/-! ### texts -/
theorem starts_iff {a b pre : List Nat} {p : Int} {x : List Nat} (ha : a = pre ++ x) (hp : p = pre.length) : startsT a b p = (x.take b.length == b) := by
  subst ha hp
  unfold startsT Txt.startswith3
  have e : PySem.fromIndex (mkS (pre ++ x)).length (pre.length : Int) = pre.length := by
    unfold PySem.fromIndex
    rw [if_neg (by omega)]
    omega
  have l1 : (mkS b).length = b.length := by show b.toArray.size = _; simp
  have l2 : (mkS (pre ++ x)).length = pre.length + x.length := by show (pre ++ x).toArray.size = _; simp
  rw [e, StrLaws.subAt_eq, l1, l2]
  show (decide (pre.length + b.length ≤ pre.length + x.length) && (((pre ++ x).toArray.toList.drop pre.length).take b.length == b.toArray.toList)) = _
  simp only [List.drop_left, List.toList_toArray]
  by_cases h : b.length ≤ x.length
  · rw [decide_eq_true (by omega)]; rfl
  · rw [decide_eq_false (by omega)]
    symm
    rw [Bool.false_and, beq_eq_false_iff_ne]
    intro q
    have := congrArg List.length q
    simp at this
    omega
theorem in_one {c : Nat} {b : List Nat} : strIn [c] b = b.contains c := by
  unfold strIn
  have h := StrLaws.found_iff (mkS b) (mkS [c])
  have lb : (mkS b).length = b.length := by show b.toArray.size = _; simp
  rw [lb] at h
  rw [Bool.eq_iff_iff, h]
  constructor
  · rintro ⟨i, h1, h2⟩
    have := (StrLaws.subAt_one (mkS b) c i).mp ⟨by rw [lb]; exact h1, h2⟩
    have : b[i]? = some c := by simpa using this
    simp only [List.contains_iff_mem]
    exact List.mem_of_getElem? this
  · intro q
    obtain ⟨i, hi⟩ := List.mem_iff_getElem?.mp (List.contains_iff_mem.mp q)
    obtain ⟨h1, h2⟩ := (StrLaws.subAt_one (mkS b) c i).mpr (by simpa using hi)
    exact ⟨i, by rw [lb] at h1; exact h1, h2⟩
theorem at_one {a pre x : List Nat} {p : Int} {c : Nat} (ha : a = pre ++ c :: x) (hp : p = pre.length) : atI a p = some c := by
  subst ha hp
  unfold atI L2.ixN
  rw [if_pos (by omega), if_pos (by simp; omega)]
  simp
theorem at_end {a : List Nat} : atI a (a.length : Int) = none := by
  unfold atI L2.ixN
  rw [if_pos (by omega), if_neg (by omega)]
  rfl
theorem cut_mid {pre x post : List Nat} {p q : Int} (hp : p = pre.length) (hq : q = pre.length + x.length) : cutL (pre ++ (x ++ post)) (some p) (some q) = x := by
  subst hp hq
  unfold cutL
  simp only [HT.sIx]
  rw [if_neg (by omega), if_neg (by omega)]
  have e1 : min (pre.length : Int).toNat (pre ++ (x ++ post)).length = pre.length := by simp
  have e2 : min ((pre.length : Int) + x.length).toNat (pre ++ (x ++ post)).length = pre.length + x.length := by simp; omega
  rw [e1, e2, List.drop_left, Nat.add_sub_cancel_left, List.take_left]
end
end Q
namespace Q
open PySem L2
/-! ### terms -/
inductive W2 where
  | plus | times | less | least | most
  deriving DecidableEq
def W2.s : W2 → List Nat
  | .plus => [112, 108, 117, 115]
  | .times => [116, 105, 109, 101, 115]
  | .less => [108, 101, 115, 115]
  | .least => [108, 101, 97, 115, 116]
  | .most => [109, 111, 115, 116]
def sDown : List Nat := [100, 111, 119, 110]
def sUp : List Nat := [117, 112]
def sChoose : List Nat := [99, 104, 111, 111, 115, 101]
inductive Tm where
  | num (i : Int)
  | down (i : Int)
  | up (c i : Int)
  | two (w : W2) (a b : Tm)
  | three (a b c : Tm)
namespace Tm
def toD : Tm → D
  | .num i => .int i
  | .down i => .tup [.str sDown, .int i]
  | .up c i => .tup [.str sUp, .int c, .int i]
  | .two w a b => .tup [.str w.s, a.toD, b.toD]
  | .three a b c => .tup [.str sChoose, a.toD, b.toD, c.toD]
def py : Tm → PyData
  | .num i => .int i
  | .down i => .tuple [.str (mkS sDown), .int i]
  | .up c i => .tuple [.str (mkS sUp), .int c, .int i]
  | .two w a b => .tuple [.str (mkS w.s), a.py, b.py]
  | .three a b c => .tuple [.str (mkS sChoose), a.py, b.py, c.py]
/-- numbers within their bounds -/
def ok : Tm → Prop
  | .num i => 0 ≤ i ∧ i ≤ 999
  | .down i => 0 ≤ i ∧ i ≤ 11
  | .up c i => (0 ≤ c ∧ c ≤ 2) ∧ (0 ≤ i ∧ i ≤ 11)
  | .two _ a b => a.ok ∧ b.ok
  | .three a b c => a.ok ∧ b.ok ∧ c.ok
def size : Tm → Nat
  | .num _ => 1
  | .down _ => 1
  | .up _ _ => 1
  | .two _ a b => 1 + a.size + b.size
  | .three a b c => 1 + a.size + b.size + c.size
def dep : Tm → Nat
  | .num _ => 1
  | .down _ => 1
  | .up _ _ => 1
  | .two _ a b => 1 + max a.dep b.dep
  | .three a b c => 1 + max a.dep (max b.dep c.dep)
theorem dep_pos : ∀ t : Tm, 1 ≤ t.dep
  | .num _ | .down _ | .up _ _ => Nat.le_refl 1
  | .two _ a b => by simp [dep]
  | .three a b c => by simp [dep]
theorem size_pos : ∀ t : Tm, 1 ≤ t.size
  | .num _ | .down _ | .up _ _ => Nat.le_refl 1
  | .two _ a b => by simp [size]; omega
  | .three a b c => by simp [size]; omega
theorem pys_cons {S : Store} {n : Nat} {d : D} {ds : List D} {a : PyData} {as : List PyData} (h1 : pyOf S n d = some a) (h2 : pysOf S n ds = some as) : pysOf S (n + 1) (d :: ds) = some (a :: as) := by
  rw [pysOf, h1, h2]
theorem py_tup {S : Store} {n : Nat} {ds : List D} {as : List PyData} (h : pysOf S n ds = some as) : pyOf S (n + 1) (.tup ds) = some (.tuple as) := by
  rw [pyOf, h]; rfl
theorem pyOf_toD (S : Store) : ∀ (t : Tm) (n : Nat), 5 * t.dep + 1 ≤ n → pyOf S n t.toD = some t.py := by
  intro t
  induction t with
  | num i => intro n h; obtain ⟨m, rfl⟩ : ∃ m, n = m + 1 := ⟨n - 1, by omega⟩; rfl
  | down i => intro n h; obtain ⟨m, rfl⟩ : ∃ m, n = m + 6 := ⟨n - 6, by simp [dep] at h; omega⟩; rfl
  | up c i => intro n h; obtain ⟨m, rfl⟩ : ∃ m, n = m + 6 := ⟨n - 6, by simp [dep] at h; omega⟩; rfl
  | two w a b iha ihb =>
    intro n h
    obtain ⟨m, rfl⟩ : ∃ m, n = m + 6 := ⟨n - 6, by simp [dep] at h; omega⟩
    have h1 := iha (m + 3) (by simp [dep] at h; omega)
    have h2 := ihb (m + 2) (by simp [dep] at h; omega)
    exact py_tup (pys_cons (n := m + 4) rfl (pys_cons (n := m + 3) h1 (pys_cons (n := m + 2) h2 rfl)))
  | three a b c iha ihb ihc =>
    intro n h
    obtain ⟨m, rfl⟩ : ∃ m, n = m + 6 := ⟨n - 6, by simp [dep] at h; omega⟩
    have h1 := iha (m + 3) (by simp [dep] at h; omega)
    have h2 := ihb (m + 2) (by simp [dep] at h; omega)
    have h3 := ihc (m + 1) (by simp [dep] at h; omega)
    exact py_tup (pys_cons (n := m + 4) rfl (pys_cons (n := m + 3) h1 (pys_cons (n := m + 2) h2 (pys_cons (n := m + 1) h3 rfl))))
theorem w_ok (w : W2) : PyData.canLay0 (.str (mkS w.s)) = true := by cases w <;> decide +kernel
theorem canLay : ∀ t : Tm, t.py.canLay0 = true := by
  intro t
  induction t with
  | num i => rfl
  | down i => simp only [py, PyData.canLay0, PyData.canLayAll0]; decide +kernel
  | up c i => simp only [py, PyData.canLay0, PyData.canLayAll0]; decide +kernel
  | two w a b iha ihb => simp only [py, PyData.canLay0, PyData.canLayAll0, iha, ihb, Bool.and_true]; simpa only [PyData.canLay0] using w_ok w
  | three a b c iha ihb ihc => simp only [py, PyData.canLay0, PyData.canLayAll0, iha, ihb, ihc, Bool.and_true]; decide +kernel
theorem depth_py : ∀ t : Tm, t.py.depth ≤ t.dep := by
  intro t
  induction t with
  | num i => simp [py, PyData.depth]
  | down i => simp [py, PyData.depth, PyData.depthAll, dep]
  | up c i => simp [py, PyData.depth, PyData.depthAll, dep]
  | two w a b iha ihb => simp only [py, PyData.depth, PyData.depthAll, dep]; omega
  | three a b c iha ihb ihc => simp only [py, PyData.depth, PyData.depthAll, dep]; omega
theorem small_all {p : Int → Bool} (n : Nat) (h : (List.range n).all (fun k => p (k : Int)) = true) {i : Int} (h0 : 0 ≤ i) (h1 : i < n) : p i = true := by
  obtain ⟨k, rfl⟩ := Int.eq_ofNat_of_zero_le h0
  rw [List.all_eq_true] at h
  exact h k (by simp; omega)
theorem w_int {i : Int} (h0 : 0 ≤ i) (h1 : i ≤ 999) : PyData.weight (.int i) ≤ 10 ∧ PyData.intsShort 13 (.int i) = true ∧ PyData.showable (.int i) = true := by
  have h := small_all (p := fun i => decide (PyData.weight (.int i) ≤ 10) && (PyData.intsShort 13 (.int i) && PyData.showable (.int i))) 1000 (by decide +kernel) h0 (by omega)
  simp only [Bool.and_eq_true, decide_eq_true_eq] at h
  exact ⟨h.1, h.2.1, h.2.2⟩
theorem w_str (w : W2) : PyData.weight (.str (mkS w.s)) ≤ 6 := by cases w <;> decide +kernel
theorem weight_py : ∀ t : Tm, t.ok → t.py.weight ≤ 60 * t.size := by
  intro t
  induction t with
  | num i => intro h; have := (w_int h.1 h.2).1; simp only [py, size]; omega
  | down i =>
    intro h
    have := (w_int h.1 (by have := h.2; omega)).1
    have e : PyData.weight (.str (mkS sDown)) = 4 := by decide +kernel
    simp only [py, PyData.weight.eq_3, PyData.weightAll, size] at this e ⊢
    simp only [PyData.weight, PyData.weightAll] at this e ⊢
    omega
  | up c i =>
    intro h
    have h1 := (w_int h.1.1 (by have := h.1.2; omega)).1
    have h2 := (w_int h.2.1 (by have := h.2.2; omega)).1
    have e : PyData.weight (.str (mkS sUp)) = 2 := by decide +kernel
    simp only [py, PyData.weight, PyData.weightAll, size] at h1 h2 e ⊢
    omega
  | two w a b iha ihb =>
    intro h
    have h1 := iha h.1
    have h2 := ihb h.2
    have e := w_str w
    simp only [py, PyData.weight, PyData.weightAll, size] at h1 h2 e ⊢
    omega
  | three a b c iha ihb ihc =>
    intro h
    have h1 := iha h.1
    have h2 := ihb h.2.1
    have h3 := ihc h.2.2
    have e : PyData.weight (.str (mkS sChoose)) = 6 := by decide +kernel
    simp only [py, PyData.weight, PyData.weightAll, size] at h1 h2 h3 e ⊢
    omega
theorem short_py : ∀ t : Tm, t.ok → t.py.intsShort 13 = true ∧ t.py.showable = true := by
  intro t
  induction t with
  | num i => intro h; exact (w_int h.1 h.2).2
  | down i =>
    intro h
    have := (w_int h.1 (by have := h.2; omega)).2
    simp only [py, PyData.intsShort, PyData.intsShortAll, PyData.showable, PyData.showableAll, Bool.and_true, Bool.true_and] at this ⊢
    exact this
  | up c i =>
    intro h
    have h1 := (w_int h.1.1 (by have := h.1.2; omega)).2
    have h2 := (w_int h.2.1 (by have := h.2.2; omega)).2
    simp only [py, PyData.intsShort, PyData.intsShortAll, PyData.showable, PyData.showableAll, Bool.and_true, Bool.true_and] at h1 h2 ⊢
    rw [h1.1, h1.2, h2.1, h2.2]
    exact ⟨rfl, rfl⟩
  | two w a b iha ihb =>
    intro h
    have h1 := iha h.1
    have h2 := ihb h.2
    simp only [py, PyData.intsShort, PyData.intsShortAll, PyData.showable, PyData.showableAll, Bool.and_true, Bool.true_and]
    rw [h1.1, h1.2, h2.1, h2.2]
    exact ⟨rfl, rfl⟩
  | three a b c iha ihb ihc =>
    intro h
    have h1 := iha h.1
    have h2 := ihb h.2.1
    have h3 := ihc h.2.2
    simp only [py, PyData.intsShort, PyData.intsShortAll, PyData.showable, PyData.showableAll, Bool.and_true, Bool.true_and]
    rw [h1.1, h1.2, h2.1, h2.2, h3.1, h3.2]
    exact ⟨rfl, rfl⟩
end Tm
/-- repr of what is small enough -/
theorem repr_ok {S : Store} {d : D} {p : PyData} (h : pyOf S PF d = some p) (hs : p.showable = true) (hc : p.canLay0 = true) (hd : p.depth ≤ 64) (hw : p.weight ≤ 2 ^ 20) (hi : p.intsShort 13 = true) : dRepr [d] S = .ok (.str p.shown.cps.toList) S := by
  have hl : p.layable0 = true := by
    unfold PyData.layable0
    rw [hc, decide_eq_true hd, decide_eq_true hw]; rfl
  have h13 := PyProof.Rows.shown_le13 hl hi
  have hdict := PyData.hasDict_of_canLay p hc
  show (match pyOf S PF d with | some p => _ | none => _) = _
  rw [h]
  simp only [hs, hdict, Bool.not_false, Bool.true_and]
  rw [decide_eq_true (show p.depth ≤ 150 by omega), decide_eq_true (show p.shown.length ≤ SL from Nat.le_trans h13 (by decide))]
  rfl
end Q
namespace Q.L92
open PySem L2
def top (i : Nat) : Stmt := PySem.Challenge.pw_treestell_k92_terms_written_and_read.main.body.getD i (.Pass ⟨0, 0, 0, 0⟩)
def r0 : Row := ⟨"is_integer", top 6, ["thing"], ["thing"]⟩
def r1 : Row := ⟨"is_within", top 7, ["thing", "low", "high"], ["thing", "low", "high"]⟩
def r2 : Row := ⟨"is_number", top 8, ["thing"], ["thing"]⟩
def r3 : Row := ⟨"is_input", top 15, ["thing"], ["thing"]⟩
def r4 : Row := ⟨"nodes_of", top 16, ["thing", "deep", "total", "part", "some"], ["thing", "deep"]⟩
def r5 : Row := ⟨"is_term_form", top 17, ["thing"], ["thing"]⟩
def r6 : Row := ⟨"need_term", top 18, ["thing"], ["thing"]⟩
def r7 : Row := ⟨"term_text", top 20, ["term", "part"], ["term"]⟩
def r8 : Row := ⟨"number_at", top 24, ["text", "at", "end"], ["text", "at"]⟩
def r9 : Row := ⟨"input_at", top 25, ["text", "at", "first", "second"], ["text", "at"]⟩
def r10 : Row := ⟨"word_at", top 26, ["text", "at", "word"], ["text", "at"]⟩
def r11 : Row := ⟨"parts_at", top 27, ["text", "at", "many", "deep", "found", "left", "part", "sign"], ["text", "at", "many", "deep"]⟩
def r12 : Row := ⟨"term_at", top 28, ["text", "at", "deep", "word", "parts"], ["text", "at", "deep"]⟩
def r13 : Row := ⟨"term_or_none", top 29, ["text", "found"], ["text"]⟩
def r14 : Row := ⟨"need_read", top 30, ["thing", "found"], ["thing", "found"]⟩
def r15 : Row := ⟨"write_term", top 32, ["term"], ["term"]⟩
def r16 : Row := ⟨"read_term", top 33, ["thing"], ["thing"]⟩
def r17 : Row := ⟨"_law_bag", top 35, ["script", "k", "cell"], ["script", "k"]⟩
def r18 : Row := ⟨"_law_draw", top 36, ["bag", "many", "got", "mixed"], ["bag", "many"]⟩
def r19 : Row := ⟨"_law_choice", top 37, ["bag", "things"], ["bag", "things"]⟩
def r20 : Row := ⟨"_law_bags", top 38, ["script", "most", "k"], ["script", "most"]⟩
def r21 : Row := ⟨"_law_leaf", top 39, ["bag", "way"], ["bag"]⟩
def r22 : Row := ⟨"_law_term", top 40, ["bag", "left", "deep", "word", "first", "some", "turn"], ["bag", "left", "deep"]⟩
def r23 : Row := ⟨"_law_flat", top 41, ["bag", "many", "left"], ["bag", "many"]⟩
def r24 : Row := ⟨"_law_nest", top 42, ["bag", "deep", "found", "turn"], ["bag", "deep"]⟩
def r25 : Row := ⟨"_law_any_term", top 43, ["bag", "way"], ["bag"]⟩
def r26 : Row := ⟨"_law_text", top 44, ["term", "part"], ["term"]⟩
def r27 : Row := ⟨"law", top 45, ["script", "last", "bag", "term", "text", "held"], ["script"]⟩
def T : Txt := { rows := [r0, r1, r2, r3, r4, r5, r6, r7, r8, r9, r10, r11, r12, r13, r14, r15, r16, r17, r18, r19, r20, r21, r22, r23, r24, r25, r26, r27], blt := ["isinstance", "len", "str", "int", "tuple", "max", "min", "sum", "repr", "sorted", "range", "bool"], cst := [("MOST_NUMBER", .int 999), ("MOST_NODES", .int 200), ("MOST_DEEP", .int 20), ("MOST_INDEX", .int 11), ("MOST_CHILD", .int 2), ("FIGURES", .str [48, 49, 50, 51, 52, 53, 54, 55, 56, 57]), ("MOST_FIGURES", .int 3), ("PARTS", .glb 0)], kws := [(15, ["term"], [0]), (16, ["thing"], [0])] }
section
variable {K : PySem.W.Frag} {w : World} {h : Heap} {mg : Str → Option Value}
theorem sc0 : FnScope r0.N r0.ps (defScope r0.st) := ⟨rfl, rfl, rfl, by decide +kernel, rfl, by decide +kernel, by decide +kernel⟩
theorem ro0 {f : Addr} {od an : Option Addr} {sl : Array (Option Value)} {oc kV dc pm cd ct : Value} (X : K.In h) (G : h.Ns mainGlobals mg) (a : PySem.W.nsIn K mainGlobals "is_integer" = some (some (.ref f)))
    (l : K.lookup f = some ⟨oc, od, .func (PySem.W.fnOf "is_integer" "is_integer" (defArgs (top 6)) (defBody (top 6)) (defScope (top 6)) .none kV dc pm an cd ct), sl⟩) (c : PySem.W.codeIn K cd "is_integer" = true) (k : PySem.W.keepIn K (.ref f) = true) : ∃ f fd, RowOk K mg T 0 r0 f fd :=
  row_mk (r := r0) X G a l c k sc0 (fun _ _ _ _ _ _ us hl => match us, hl with | [_], _ => rfl) (fun ks qm z => (noKw_ok (by decide +kernel) z).elim)
theorem sc1 : FnScope r1.N r1.ps (defScope r1.st) := ⟨rfl, rfl, rfl, by decide +kernel, rfl, by decide +kernel, by decide +kernel⟩
theorem ro1 {f : Addr} {od an : Option Addr} {sl : Array (Option Value)} {oc kV dc pm cd ct : Value} (X : K.In h) (G : h.Ns mainGlobals mg) (a : PySem.W.nsIn K mainGlobals "is_within" = some (some (.ref f)))
    (l : K.lookup f = some ⟨oc, od, .func (PySem.W.fnOf "is_within" "is_within" (defArgs (top 7)) (defBody (top 7)) (defScope (top 7)) .none kV dc pm an cd ct), sl⟩) (c : PySem.W.codeIn K cd "is_within" = true) (k : PySem.W.keepIn K (.ref f) = true) : ∃ f fd, RowOk K mg T 1 r1 f fd :=
  row_mk (r := r1) X G a l c k sc1 (fun _ _ _ _ _ _ us hl => match us, hl with | [_, _, _], _ => rfl) (fun ks qm z => (noKw_ok (by decide +kernel) z).elim)
theorem sc2 : FnScope r2.N r2.ps (defScope r2.st) := ⟨rfl, rfl, rfl, by decide +kernel, rfl, by decide +kernel, by decide +kernel⟩
theorem ro2 {f : Addr} {od an : Option Addr} {sl : Array (Option Value)} {oc kV dc pm cd ct : Value} (X : K.In h) (G : h.Ns mainGlobals mg) (a : PySem.W.nsIn K mainGlobals "is_number" = some (some (.ref f)))
    (l : K.lookup f = some ⟨oc, od, .func (PySem.W.fnOf "is_number" "is_number" (defArgs (top 8)) (defBody (top 8)) (defScope (top 8)) .none kV dc pm an cd ct), sl⟩) (c : PySem.W.codeIn K cd "is_number" = true) (k : PySem.W.keepIn K (.ref f) = true) : ∃ f fd, RowOk K mg T 2 r2 f fd :=
  row_mk (r := r2) X G a l c k sc2 (fun _ _ _ _ _ _ us hl => match us, hl with | [_], _ => rfl) (fun ks qm z => (noKw_ok (by decide +kernel) z).elim)
theorem sc3 : FnScope r3.N r3.ps (defScope r3.st) := ⟨rfl, rfl, rfl, by decide +kernel, rfl, by decide +kernel, by decide +kernel⟩
theorem ro3 {f : Addr} {od an : Option Addr} {sl : Array (Option Value)} {oc kV dc pm cd ct : Value} (X : K.In h) (G : h.Ns mainGlobals mg) (a : PySem.W.nsIn K mainGlobals "is_input" = some (some (.ref f)))
    (l : K.lookup f = some ⟨oc, od, .func (PySem.W.fnOf "is_input" "is_input" (defArgs (top 15)) (defBody (top 15)) (defScope (top 15)) .none kV dc pm an cd ct), sl⟩) (c : PySem.W.codeIn K cd "is_input" = true) (k : PySem.W.keepIn K (.ref f) = true) : ∃ f fd, RowOk K mg T 3 r3 f fd :=
  row_mk (r := r3) X G a l c k sc3 (fun _ _ _ _ _ _ us hl => match us, hl with | [_], _ => rfl) (fun ks qm z => (noKw_ok (by decide +kernel) z).elim)
theorem sc4 : FnScope r4.N r4.ps (defScope r4.st) := ⟨rfl, rfl, rfl, by decide +kernel, rfl, by decide +kernel, by decide +kernel⟩
theorem ro4 {f : Addr} {od an : Option Addr} {sl : Array (Option Value)} {oc kV dc pm cd ct : Value} (X : K.In h) (G : h.Ns mainGlobals mg) (a : PySem.W.nsIn K mainGlobals "nodes_of" = some (some (.ref f)))
    (l : K.lookup f = some ⟨oc, od, .func (PySem.W.fnOf "nodes_of" "nodes_of" (defArgs (top 16)) (defBody (top 16)) (defScope (top 16)) .none kV dc pm an cd ct), sl⟩) (c : PySem.W.codeIn K cd "nodes_of" = true) (k : PySem.W.keepIn K (.ref f) = true) : ∃ f fd, RowOk K mg T 4 r4 f fd :=
  row_mk (r := r4) X G a l c k sc4 (fun _ _ _ _ _ _ us hl => match us, hl with | [_, _], _ => rfl) (fun ks qm z => (noKw_ok (by decide +kernel) z).elim)
theorem sc5 : FnScope r5.N r5.ps (defScope r5.st) := ⟨rfl, rfl, rfl, by decide +kernel, rfl, by decide +kernel, by decide +kernel⟩
theorem ro5 {f : Addr} {od an : Option Addr} {sl : Array (Option Value)} {oc kV dc pm cd ct : Value} (X : K.In h) (G : h.Ns mainGlobals mg) (a : PySem.W.nsIn K mainGlobals "is_term_form" = some (some (.ref f)))
    (l : K.lookup f = some ⟨oc, od, .func (PySem.W.fnOf "is_term_form" "is_term_form" (defArgs (top 17)) (defBody (top 17)) (defScope (top 17)) .none kV dc pm an cd ct), sl⟩) (c : PySem.W.codeIn K cd "is_term_form" = true) (k : PySem.W.keepIn K (.ref f) = true) : ∃ f fd, RowOk K mg T 5 r5 f fd :=
  row_mk (r := r5) X G a l c k sc5 (fun _ _ _ _ _ _ us hl => match us, hl with | [_], _ => rfl) (fun ks qm z => (noKw_ok (by decide +kernel) z).elim)
theorem sc6 : FnScope r6.N r6.ps (defScope r6.st) := ⟨rfl, rfl, rfl, by decide +kernel, rfl, by decide +kernel, by decide +kernel⟩
theorem ro6 {f : Addr} {od an : Option Addr} {sl : Array (Option Value)} {oc kV dc pm cd ct : Value} (X : K.In h) (G : h.Ns mainGlobals mg) (a : PySem.W.nsIn K mainGlobals "need_term" = some (some (.ref f)))
    (l : K.lookup f = some ⟨oc, od, .func (PySem.W.fnOf "need_term" "need_term" (defArgs (top 18)) (defBody (top 18)) (defScope (top 18)) .none kV dc pm an cd ct), sl⟩) (c : PySem.W.codeIn K cd "need_term" = true) (k : PySem.W.keepIn K (.ref f) = true) : ∃ f fd, RowOk K mg T 6 r6 f fd :=
  row_mk (r := r6) X G a l c k sc6 (fun _ _ _ _ _ _ us hl => match us, hl with | [_], _ => rfl) (fun ks qm z => (noKw_ok (by decide +kernel) z).elim)
theorem sc7 : FnScope r7.N r7.ps (defScope r7.st) := ⟨rfl, rfl, rfl, by decide +kernel, rfl, by decide +kernel, by decide +kernel⟩
theorem ro7 {f : Addr} {od an : Option Addr} {sl : Array (Option Value)} {oc kV dc pm cd ct : Value} (X : K.In h) (G : h.Ns mainGlobals mg) (a : PySem.W.nsIn K mainGlobals "term_text" = some (some (.ref f)))
    (l : K.lookup f = some ⟨oc, od, .func (PySem.W.fnOf "term_text" "term_text" (defArgs (top 20)) (defBody (top 20)) (defScope (top 20)) .none kV dc pm an cd ct), sl⟩) (c : PySem.W.codeIn K cd "term_text" = true) (k : PySem.W.keepIn K (.ref f) = true) : ∃ f fd, RowOk K mg T 7 r7 f fd :=
  row_mk (r := r7) X G a l c k sc7 (fun _ _ _ _ _ _ us hl => match us, hl with | [_], _ => rfl) (fun ks qm z => (noKw_ok (by decide +kernel) z).elim)
theorem sc8 : FnScope r8.N r8.ps (defScope r8.st) := ⟨rfl, rfl, rfl, by decide +kernel, rfl, by decide +kernel, by decide +kernel⟩
theorem ro8 {f : Addr} {od an : Option Addr} {sl : Array (Option Value)} {oc kV dc pm cd ct : Value} (X : K.In h) (G : h.Ns mainGlobals mg) (a : PySem.W.nsIn K mainGlobals "number_at" = some (some (.ref f)))
    (l : K.lookup f = some ⟨oc, od, .func (PySem.W.fnOf "number_at" "number_at" (defArgs (top 24)) (defBody (top 24)) (defScope (top 24)) .none kV dc pm an cd ct), sl⟩) (c : PySem.W.codeIn K cd "number_at" = true) (k : PySem.W.keepIn K (.ref f) = true) : ∃ f fd, RowOk K mg T 8 r8 f fd :=
  row_mk (r := r8) X G a l c k sc8 (fun _ _ _ _ _ _ us hl => match us, hl with | [_, _], _ => rfl) (fun ks qm z => (noKw_ok (by decide +kernel) z).elim)
theorem sc9 : FnScope r9.N r9.ps (defScope r9.st) := ⟨rfl, rfl, rfl, by decide +kernel, rfl, by decide +kernel, by decide +kernel⟩
theorem ro9 {f : Addr} {od an : Option Addr} {sl : Array (Option Value)} {oc kV dc pm cd ct : Value} (X : K.In h) (G : h.Ns mainGlobals mg) (a : PySem.W.nsIn K mainGlobals "input_at" = some (some (.ref f)))
    (l : K.lookup f = some ⟨oc, od, .func (PySem.W.fnOf "input_at" "input_at" (defArgs (top 25)) (defBody (top 25)) (defScope (top 25)) .none kV dc pm an cd ct), sl⟩) (c : PySem.W.codeIn K cd "input_at" = true) (k : PySem.W.keepIn K (.ref f) = true) : ∃ f fd, RowOk K mg T 9 r9 f fd :=
  row_mk (r := r9) X G a l c k sc9 (fun _ _ _ _ _ _ us hl => match us, hl with | [_, _], _ => rfl) (fun ks qm z => (noKw_ok (by decide +kernel) z).elim)
theorem sc10 : FnScope r10.N r10.ps (defScope r10.st) := ⟨rfl, rfl, rfl, by decide +kernel, rfl, by decide +kernel, by decide +kernel⟩
theorem ro10 {f : Addr} {od an : Option Addr} {sl : Array (Option Value)} {oc kV dc pm cd ct : Value} (X : K.In h) (G : h.Ns mainGlobals mg) (a : PySem.W.nsIn K mainGlobals "word_at" = some (some (.ref f)))
    (l : K.lookup f = some ⟨oc, od, .func (PySem.W.fnOf "word_at" "word_at" (defArgs (top 26)) (defBody (top 26)) (defScope (top 26)) .none kV dc pm an cd ct), sl⟩) (c : PySem.W.codeIn K cd "word_at" = true) (k : PySem.W.keepIn K (.ref f) = true) : ∃ f fd, RowOk K mg T 10 r10 f fd :=
  row_mk (r := r10) X G a l c k sc10 (fun _ _ _ _ _ _ us hl => match us, hl with | [_, _], _ => rfl) (fun ks qm z => (noKw_ok (by decide +kernel) z).elim)
theorem sc11 : FnScope r11.N r11.ps (defScope r11.st) := ⟨rfl, rfl, rfl, by decide +kernel, rfl, by decide +kernel, by decide +kernel⟩
theorem ro11 {f : Addr} {od an : Option Addr} {sl : Array (Option Value)} {oc kV dc pm cd ct : Value} (X : K.In h) (G : h.Ns mainGlobals mg) (a : PySem.W.nsIn K mainGlobals "parts_at" = some (some (.ref f)))
    (l : K.lookup f = some ⟨oc, od, .func (PySem.W.fnOf "parts_at" "parts_at" (defArgs (top 27)) (defBody (top 27)) (defScope (top 27)) .none kV dc pm an cd ct), sl⟩) (c : PySem.W.codeIn K cd "parts_at" = true) (k : PySem.W.keepIn K (.ref f) = true) : ∃ f fd, RowOk K mg T 11 r11 f fd :=
  row_mk (r := r11) X G a l c k sc11 (fun _ _ _ _ _ _ us hl => match us, hl with | [_, _, _, _], _ => rfl) (fun ks qm z => (noKw_ok (by decide +kernel) z).elim)
theorem sc12 : FnScope r12.N r12.ps (defScope r12.st) := ⟨rfl, rfl, rfl, by decide +kernel, rfl, by decide +kernel, by decide +kernel⟩
theorem ro12 {f : Addr} {od an : Option Addr} {sl : Array (Option Value)} {oc kV dc pm cd ct : Value} (X : K.In h) (G : h.Ns mainGlobals mg) (a : PySem.W.nsIn K mainGlobals "term_at" = some (some (.ref f)))
    (l : K.lookup f = some ⟨oc, od, .func (PySem.W.fnOf "term_at" "term_at" (defArgs (top 28)) (defBody (top 28)) (defScope (top 28)) .none kV dc pm an cd ct), sl⟩) (c : PySem.W.codeIn K cd "term_at" = true) (k : PySem.W.keepIn K (.ref f) = true) : ∃ f fd, RowOk K mg T 12 r12 f fd :=
  row_mk (r := r12) X G a l c k sc12 (fun _ _ _ _ _ _ us hl => match us, hl with | [_, _, _], _ => rfl) (fun ks qm z => (noKw_ok (by decide +kernel) z).elim)
theorem sc13 : FnScope r13.N r13.ps (defScope r13.st) := ⟨rfl, rfl, rfl, by decide +kernel, rfl, by decide +kernel, by decide +kernel⟩
theorem ro13 {f : Addr} {od an : Option Addr} {sl : Array (Option Value)} {oc kV dc pm cd ct : Value} (X : K.In h) (G : h.Ns mainGlobals mg) (a : PySem.W.nsIn K mainGlobals "term_or_none" = some (some (.ref f)))
    (l : K.lookup f = some ⟨oc, od, .func (PySem.W.fnOf "term_or_none" "term_or_none" (defArgs (top 29)) (defBody (top 29)) (defScope (top 29)) .none kV dc pm an cd ct), sl⟩) (c : PySem.W.codeIn K cd "term_or_none" = true) (k : PySem.W.keepIn K (.ref f) = true) : ∃ f fd, RowOk K mg T 13 r13 f fd :=
  row_mk (r := r13) X G a l c k sc13 (fun _ _ _ _ _ _ us hl => match us, hl with | [_], _ => rfl) (fun ks qm z => (noKw_ok (by decide +kernel) z).elim)
theorem sc14 : FnScope r14.N r14.ps (defScope r14.st) := ⟨rfl, rfl, rfl, by decide +kernel, rfl, by decide +kernel, by decide +kernel⟩
theorem ro14 {f : Addr} {od an : Option Addr} {sl : Array (Option Value)} {oc kV dc pm cd ct : Value} (X : K.In h) (G : h.Ns mainGlobals mg) (a : PySem.W.nsIn K mainGlobals "need_read" = some (some (.ref f)))
    (l : K.lookup f = some ⟨oc, od, .func (PySem.W.fnOf "need_read" "need_read" (defArgs (top 30)) (defBody (top 30)) (defScope (top 30)) .none kV dc pm an cd ct), sl⟩) (c : PySem.W.codeIn K cd "need_read" = true) (k : PySem.W.keepIn K (.ref f) = true) : ∃ f fd, RowOk K mg T 14 r14 f fd :=
  row_mk (r := r14) X G a l c k sc14 (fun _ _ _ _ _ _ us hl => match us, hl with | [_, _], _ => rfl) (fun ks qm z => (noKw_ok (by decide +kernel) z).elim)
theorem sc15 : FnScope r15.N r15.ps (defScope r15.st) := ⟨rfl, rfl, rfl, by decide +kernel, rfl, by decide +kernel, by decide +kernel⟩
theorem ro15 {f : Addr} {od an : Option Addr} {sl : Array (Option Value)} {oc kV dc pm cd ct : Value} (X : K.In h) (G : h.Ns mainGlobals mg) (a : PySem.W.nsIn K mainGlobals "write_term" = some (some (.ref f)))
    (l : K.lookup f = some ⟨oc, od, .func (PySem.W.fnOf "write_term" "write_term" (defArgs (top 32)) (defBody (top 32)) (defScope (top 32)) .none kV dc pm an cd ct), sl⟩) (c : PySem.W.codeIn K cd "write_term" = true) (k : PySem.W.keepIn K (.ref f) = true) : ∃ f fd, RowOk K mg T 15 r15 f fd :=
  row_mk (r := r15) X G a l c k sc15 (fun _ _ _ _ _ _ us hl => match us, hl with | [_], _ => rfl) (fun ks qm z => by obtain ⟨rfl, rfl⟩ := kwFind_one z (js := ["term"]) (qm := [0]) (by decide +kernel); exact kw_mk fun ws hl => match ws, hl with | [_], _ => rfl)
theorem sc16 : FnScope r16.N r16.ps (defScope r16.st) := ⟨rfl, rfl, rfl, by decide +kernel, rfl, by decide +kernel, by decide +kernel⟩
theorem ro16 {f : Addr} {od an : Option Addr} {sl : Array (Option Value)} {oc kV dc pm cd ct : Value} (X : K.In h) (G : h.Ns mainGlobals mg) (a : PySem.W.nsIn K mainGlobals "read_term" = some (some (.ref f)))
    (l : K.lookup f = some ⟨oc, od, .func (PySem.W.fnOf "read_term" "read_term" (defArgs (top 33)) (defBody (top 33)) (defScope (top 33)) .none kV dc pm an cd ct), sl⟩) (c : PySem.W.codeIn K cd "read_term" = true) (k : PySem.W.keepIn K (.ref f) = true) : ∃ f fd, RowOk K mg T 16 r16 f fd :=
  row_mk (r := r16) X G a l c k sc16 (fun _ _ _ _ _ _ us hl => match us, hl with | [_], _ => rfl) (fun ks qm z => by obtain ⟨rfl, rfl⟩ := kwFind_one z (js := ["thing"]) (qm := [0]) (by decide +kernel); exact kw_mk fun ws hl => match ws, hl with | [_], _ => rfl)
theorem sc17 : FnScope r17.N r17.ps (defScope r17.st) := ⟨rfl, rfl, rfl, by decide +kernel, rfl, by decide +kernel, by decide +kernel⟩
theorem ro17 {f : Addr} {od an : Option Addr} {sl : Array (Option Value)} {oc kV dc pm cd ct : Value} (X : K.In h) (G : h.Ns mainGlobals mg) (a : PySem.W.nsIn K mainGlobals "_law_bag" = some (some (.ref f)))
    (l : K.lookup f = some ⟨oc, od, .func (PySem.W.fnOf "_law_bag" "_law_bag" (defArgs (top 35)) (defBody (top 35)) (defScope (top 35)) .none kV dc pm an cd ct), sl⟩) (c : PySem.W.codeIn K cd "_law_bag" = true) (k : PySem.W.keepIn K (.ref f) = true) : ∃ f fd, RowOk K mg T 17 r17 f fd :=
  row_mk (r := r17) X G a l c k sc17 (fun _ _ _ _ _ _ us hl => match us, hl with | [_, _], _ => rfl) (fun ks qm z => (noKw_ok (by decide +kernel) z).elim)
theorem sc18 : FnScope r18.N r18.ps (defScope r18.st) := ⟨rfl, rfl, rfl, by decide +kernel, rfl, by decide +kernel, by decide +kernel⟩
theorem ro18 {f : Addr} {od an : Option Addr} {sl : Array (Option Value)} {oc kV dc pm cd ct : Value} (X : K.In h) (G : h.Ns mainGlobals mg) (a : PySem.W.nsIn K mainGlobals "_law_draw" = some (some (.ref f)))
    (l : K.lookup f = some ⟨oc, od, .func (PySem.W.fnOf "_law_draw" "_law_draw" (defArgs (top 36)) (defBody (top 36)) (defScope (top 36)) .none kV dc pm an cd ct), sl⟩) (c : PySem.W.codeIn K cd "_law_draw" = true) (k : PySem.W.keepIn K (.ref f) = true) : ∃ f fd, RowOk K mg T 18 r18 f fd :=
  row_mk (r := r18) X G a l c k sc18 (fun _ _ _ _ _ _ us hl => match us, hl with | [_, _], _ => rfl) (fun ks qm z => (noKw_ok (by decide +kernel) z).elim)
theorem sc19 : FnScope r19.N r19.ps (defScope r19.st) := ⟨rfl, rfl, rfl, by decide +kernel, rfl, by decide +kernel, by decide +kernel⟩
theorem ro19 {f : Addr} {od an : Option Addr} {sl : Array (Option Value)} {oc kV dc pm cd ct : Value} (X : K.In h) (G : h.Ns mainGlobals mg) (a : PySem.W.nsIn K mainGlobals "_law_choice" = some (some (.ref f)))
    (l : K.lookup f = some ⟨oc, od, .func (PySem.W.fnOf "_law_choice" "_law_choice" (defArgs (top 37)) (defBody (top 37)) (defScope (top 37)) .none kV dc pm an cd ct), sl⟩) (c : PySem.W.codeIn K cd "_law_choice" = true) (k : PySem.W.keepIn K (.ref f) = true) : ∃ f fd, RowOk K mg T 19 r19 f fd :=
  row_mk (r := r19) X G a l c k sc19 (fun _ _ _ _ _ _ us hl => match us, hl with | [_, _], _ => rfl) (fun ks qm z => (noKw_ok (by decide +kernel) z).elim)
theorem sc20 : FnScope r20.N r20.ps (defScope r20.st) := ⟨rfl, rfl, rfl, by decide +kernel, rfl, by decide +kernel, by decide +kernel⟩
theorem ro20 {f : Addr} {od an : Option Addr} {sl : Array (Option Value)} {oc kV dc pm cd ct : Value} (X : K.In h) (G : h.Ns mainGlobals mg) (a : PySem.W.nsIn K mainGlobals "_law_bags" = some (some (.ref f)))
    (l : K.lookup f = some ⟨oc, od, .func (PySem.W.fnOf "_law_bags" "_law_bags" (defArgs (top 38)) (defBody (top 38)) (defScope (top 38)) .none kV dc pm an cd ct), sl⟩) (c : PySem.W.codeIn K cd "_law_bags" = true) (k : PySem.W.keepIn K (.ref f) = true) : ∃ f fd, RowOk K mg T 20 r20 f fd :=
  row_mk (r := r20) X G a l c k sc20 (fun _ _ _ _ _ _ us hl => match us, hl with | [_, _], _ => rfl) (fun ks qm z => (noKw_ok (by decide +kernel) z).elim)
theorem sc21 : FnScope r21.N r21.ps (defScope r21.st) := ⟨rfl, rfl, rfl, by decide +kernel, rfl, by decide +kernel, by decide +kernel⟩
theorem ro21 {f : Addr} {od an : Option Addr} {sl : Array (Option Value)} {oc kV dc pm cd ct : Value} (X : K.In h) (G : h.Ns mainGlobals mg) (a : PySem.W.nsIn K mainGlobals "_law_leaf" = some (some (.ref f)))
    (l : K.lookup f = some ⟨oc, od, .func (PySem.W.fnOf "_law_leaf" "_law_leaf" (defArgs (top 39)) (defBody (top 39)) (defScope (top 39)) .none kV dc pm an cd ct), sl⟩) (c : PySem.W.codeIn K cd "_law_leaf" = true) (k : PySem.W.keepIn K (.ref f) = true) : ∃ f fd, RowOk K mg T 21 r21 f fd :=
  row_mk (r := r21) X G a l c k sc21 (fun _ _ _ _ _ _ us hl => match us, hl with | [_], _ => rfl) (fun ks qm z => (noKw_ok (by decide +kernel) z).elim)
theorem sc22 : FnScope r22.N r22.ps (defScope r22.st) := ⟨rfl, rfl, rfl, by decide +kernel, rfl, by decide +kernel, by decide +kernel⟩
theorem ro22 {f : Addr} {od an : Option Addr} {sl : Array (Option Value)} {oc kV dc pm cd ct : Value} (X : K.In h) (G : h.Ns mainGlobals mg) (a : PySem.W.nsIn K mainGlobals "_law_term" = some (some (.ref f)))
    (l : K.lookup f = some ⟨oc, od, .func (PySem.W.fnOf "_law_term" "_law_term" (defArgs (top 40)) (defBody (top 40)) (defScope (top 40)) .none kV dc pm an cd ct), sl⟩) (c : PySem.W.codeIn K cd "_law_term" = true) (k : PySem.W.keepIn K (.ref f) = true) : ∃ f fd, RowOk K mg T 22 r22 f fd :=
  row_mk (r := r22) X G a l c k sc22 (fun _ _ _ _ _ _ us hl => match us, hl with | [_, _, _], _ => rfl) (fun ks qm z => (noKw_ok (by decide +kernel) z).elim)
theorem sc23 : FnScope r23.N r23.ps (defScope r23.st) := ⟨rfl, rfl, rfl, by decide +kernel, rfl, by decide +kernel, by decide +kernel⟩
theorem ro23 {f : Addr} {od an : Option Addr} {sl : Array (Option Value)} {oc kV dc pm cd ct : Value} (X : K.In h) (G : h.Ns mainGlobals mg) (a : PySem.W.nsIn K mainGlobals "_law_flat" = some (some (.ref f)))
    (l : K.lookup f = some ⟨oc, od, .func (PySem.W.fnOf "_law_flat" "_law_flat" (defArgs (top 41)) (defBody (top 41)) (defScope (top 41)) .none kV dc pm an cd ct), sl⟩) (c : PySem.W.codeIn K cd "_law_flat" = true) (k : PySem.W.keepIn K (.ref f) = true) : ∃ f fd, RowOk K mg T 23 r23 f fd :=
  row_mk (r := r23) X G a l c k sc23 (fun _ _ _ _ _ _ us hl => match us, hl with | [_, _], _ => rfl) (fun ks qm z => (noKw_ok (by decide +kernel) z).elim)
theorem sc24 : FnScope r24.N r24.ps (defScope r24.st) := ⟨rfl, rfl, rfl, by decide +kernel, rfl, by decide +kernel, by decide +kernel⟩
theorem ro24 {f : Addr} {od an : Option Addr} {sl : Array (Option Value)} {oc kV dc pm cd ct : Value} (X : K.In h) (G : h.Ns mainGlobals mg) (a : PySem.W.nsIn K mainGlobals "_law_nest" = some (some (.ref f)))
    (l : K.lookup f = some ⟨oc, od, .func (PySem.W.fnOf "_law_nest" "_law_nest" (defArgs (top 42)) (defBody (top 42)) (defScope (top 42)) .none kV dc pm an cd ct), sl⟩) (c : PySem.W.codeIn K cd "_law_nest" = true) (k : PySem.W.keepIn K (.ref f) = true) : ∃ f fd, RowOk K mg T 24 r24 f fd :=
  row_mk (r := r24) X G a l c k sc24 (fun _ _ _ _ _ _ us hl => match us, hl with | [_, _], _ => rfl) (fun ks qm z => (noKw_ok (by decide +kernel) z).elim)
theorem sc25 : FnScope r25.N r25.ps (defScope r25.st) := ⟨rfl, rfl, rfl, by decide +kernel, rfl, by decide +kernel, by decide +kernel⟩
theorem ro25 {f : Addr} {od an : Option Addr} {sl : Array (Option Value)} {oc kV dc pm cd ct : Value} (X : K.In h) (G : h.Ns mainGlobals mg) (a : PySem.W.nsIn K mainGlobals "_law_any_term" = some (some (.ref f)))
    (l : K.lookup f = some ⟨oc, od, .func (PySem.W.fnOf "_law_any_term" "_law_any_term" (defArgs (top 43)) (defBody (top 43)) (defScope (top 43)) .none kV dc pm an cd ct), sl⟩) (c : PySem.W.codeIn K cd "_law_any_term" = true) (k : PySem.W.keepIn K (.ref f) = true) : ∃ f fd, RowOk K mg T 25 r25 f fd :=
  row_mk (r := r25) X G a l c k sc25 (fun _ _ _ _ _ _ us hl => match us, hl with | [_], _ => rfl) (fun ks qm z => (noKw_ok (by decide +kernel) z).elim)
theorem sc26 : FnScope r26.N r26.ps (defScope r26.st) := ⟨rfl, rfl, rfl, by decide +kernel, rfl, by decide +kernel, by decide +kernel⟩
theorem ro26 {f : Addr} {od an : Option Addr} {sl : Array (Option Value)} {oc kV dc pm cd ct : Value} (X : K.In h) (G : h.Ns mainGlobals mg) (a : PySem.W.nsIn K mainGlobals "_law_text" = some (some (.ref f)))
    (l : K.lookup f = some ⟨oc, od, .func (PySem.W.fnOf "_law_text" "_law_text" (defArgs (top 44)) (defBody (top 44)) (defScope (top 44)) .none kV dc pm an cd ct), sl⟩) (c : PySem.W.codeIn K cd "_law_text" = true) (k : PySem.W.keepIn K (.ref f) = true) : ∃ f fd, RowOk K mg T 26 r26 f fd :=
  row_mk (r := r26) X G a l c k sc26 (fun _ _ _ _ _ _ us hl => match us, hl with | [_], _ => rfl) (fun ks qm z => (noKw_ok (by decide +kernel) z).elim)
theorem sc27 : FnScope r27.N r27.ps (defScope r27.st) := ⟨rfl, rfl, rfl, by decide +kernel, rfl, by decide +kernel, by decide +kernel⟩
theorem ro27 {f : Addr} {od an : Option Addr} {sl : Array (Option Value)} {oc kV dc pm cd ct : Value} (X : K.In h) (G : h.Ns mainGlobals mg) (a : PySem.W.nsIn K mainGlobals "law" = some (some (.ref f)))
    (l : K.lookup f = some ⟨oc, od, .func (PySem.W.fnOf "law" "law" (defArgs (top 45)) (defBody (top 45)) (defScope (top 45)) .none kV dc pm an cd ct), sl⟩) (c : PySem.W.codeIn K cd "law" = true) (k : PySem.W.keepIn K (.ref f) = true) : ∃ f fd, RowOk K mg T 27 r27 f fd :=
  row_mk (r := r27) X G a l c k sc27 (fun _ _ _ _ _ _ us hl => match us, hl with | [_], _ => rfl) (fun ks qm z => (noKw_ok (by decide +kernel) z).elim)
end
theorem facts {K : PySem.W.Frag} {w : World} {h : Heap} {mg : Str → Option Value} (X : K.In h) (G : h.Ns mainGlobals mg) {f0 f1 f2 f3 f4 f5 f6 f7 f8 f9 f10 f11 f12 f13 f14 f15 f16 f17 f18 f19 f20 f21 f22 f23 f24 f25 f26 f27 : Addr} {od0 an0 od1 an1 od2 an2 od3 an3 od4 an4 od5 an5 od6 an6 od7 an7 od8 an8 od9 an9 od10 an10 od11 an11 od12 an12 od13 an13 od14 an14 od15 an15 od16 an16 od17 an17 od18 an18 od19 an19 od20 an20 od21 an21 od22 an22 od23 an23 od24 an24 od25 an25 od26 an26 od27 an27 : Option Addr} {sl0 sl1 sl2 sl3 sl4 sl5 sl6 sl7 sl8 sl9 sl10 sl11 sl12 sl13 sl14 sl15 sl16 sl17 sl18 sl19 sl20 sl21 sl22 sl23 sl24 sl25 sl26 sl27 : Array (Option Value)} {oc0 kV0 dc0 pm0 cd0 ct0 oc1 kV1 dc1 pm1 cd1 ct1 oc2 kV2 dc2 pm2 cd2 ct2 oc3 kV3 dc3 pm3 cd3 ct3 oc4 kV4 dc4 pm4 cd4 ct4 oc5 kV5 dc5 pm5 cd5 ct5 oc6 kV6 dc6 pm6 cd6 ct6 oc7 kV7 dc7 pm7 cd7 ct7 oc8 kV8 dc8 pm8 cd8 ct8 oc9 kV9 dc9 pm9 cd9 ct9 oc10 kV10 dc10 pm10 cd10 ct10 oc11 kV11 dc11 pm11 cd11 ct11 oc12 kV12 dc12 pm12 cd12 ct12 oc13 kV13 dc13 pm13 cd13 ct13 oc14 kV14 dc14 pm14 cd14 ct14 oc15 kV15 dc15 pm15 cd15 ct15 oc16 kV16 dc16 pm16 cd16 ct16 oc17 kV17 dc17 pm17 cd17 ct17 oc18 kV18 dc18 pm18 cd18 ct18 oc19 kV19 dc19 pm19 cd19 ct19 oc20 kV20 dc20 pm20 cd20 ct20 oc21 kV21 dc21 pm21 cd21 ct21 oc22 kV22 dc22 pm22 cd22 ct22 oc23 kV23 dc23 pm23 cd23 ct23 oc24 kV24 dc24 pm24 cd24 ct24 oc25 kV25 dc25 pm25 cd25 ct25 oc26 kV26 dc26 pm26 cd26 ct26 oc27 kV27 dc27 pm27 cd27 ct27 : Value}
    (a0 : PySem.W.nsIn K mainGlobals "is_integer" = some (some (.ref f0))) (l0 : K.lookup f0 = some ⟨oc0, od0, .func (PySem.W.fnOf "is_integer" "is_integer" (defArgs (top 6)) (defBody (top 6)) (defScope (top 6)) .none kV0 dc0 pm0 an0 cd0 ct0), sl0⟩) (c0 : PySem.W.codeIn K cd0 "is_integer" = true) (k0 : PySem.W.keepIn K (.ref f0) = true)
    (a1 : PySem.W.nsIn K mainGlobals "is_within" = some (some (.ref f1))) (l1 : K.lookup f1 = some ⟨oc1, od1, .func (PySem.W.fnOf "is_within" "is_within" (defArgs (top 7)) (defBody (top 7)) (defScope (top 7)) .none kV1 dc1 pm1 an1 cd1 ct1), sl1⟩) (c1 : PySem.W.codeIn K cd1 "is_within" = true) (k1 : PySem.W.keepIn K (.ref f1) = true)
    (a2 : PySem.W.nsIn K mainGlobals "is_number" = some (some (.ref f2))) (l2 : K.lookup f2 = some ⟨oc2, od2, .func (PySem.W.fnOf "is_number" "is_number" (defArgs (top 8)) (defBody (top 8)) (defScope (top 8)) .none kV2 dc2 pm2 an2 cd2 ct2), sl2⟩) (c2 : PySem.W.codeIn K cd2 "is_number" = true) (k2 : PySem.W.keepIn K (.ref f2) = true)
    (a3 : PySem.W.nsIn K mainGlobals "is_input" = some (some (.ref f3))) (l3 : K.lookup f3 = some ⟨oc3, od3, .func (PySem.W.fnOf "is_input" "is_input" (defArgs (top 15)) (defBody (top 15)) (defScope (top 15)) .none kV3 dc3 pm3 an3 cd3 ct3), sl3⟩) (c3 : PySem.W.codeIn K cd3 "is_input" = true) (k3 : PySem.W.keepIn K (.ref f3) = true)
    (a4 : PySem.W.nsIn K mainGlobals "nodes_of" = some (some (.ref f4))) (l4 : K.lookup f4 = some ⟨oc4, od4, .func (PySem.W.fnOf "nodes_of" "nodes_of" (defArgs (top 16)) (defBody (top 16)) (defScope (top 16)) .none kV4 dc4 pm4 an4 cd4 ct4), sl4⟩) (c4 : PySem.W.codeIn K cd4 "nodes_of" = true) (k4 : PySem.W.keepIn K (.ref f4) = true)
    (a5 : PySem.W.nsIn K mainGlobals "is_term_form" = some (some (.ref f5))) (l5 : K.lookup f5 = some ⟨oc5, od5, .func (PySem.W.fnOf "is_term_form" "is_term_form" (defArgs (top 17)) (defBody (top 17)) (defScope (top 17)) .none kV5 dc5 pm5 an5 cd5 ct5), sl5⟩) (c5 : PySem.W.codeIn K cd5 "is_term_form" = true) (k5 : PySem.W.keepIn K (.ref f5) = true)
    (a6 : PySem.W.nsIn K mainGlobals "need_term" = some (some (.ref f6))) (l6 : K.lookup f6 = some ⟨oc6, od6, .func (PySem.W.fnOf "need_term" "need_term" (defArgs (top 18)) (defBody (top 18)) (defScope (top 18)) .none kV6 dc6 pm6 an6 cd6 ct6), sl6⟩) (c6 : PySem.W.codeIn K cd6 "need_term" = true) (k6 : PySem.W.keepIn K (.ref f6) = true)
    (a7 : PySem.W.nsIn K mainGlobals "term_text" = some (some (.ref f7))) (l7 : K.lookup f7 = some ⟨oc7, od7, .func (PySem.W.fnOf "term_text" "term_text" (defArgs (top 20)) (defBody (top 20)) (defScope (top 20)) .none kV7 dc7 pm7 an7 cd7 ct7), sl7⟩) (c7 : PySem.W.codeIn K cd7 "term_text" = true) (k7 : PySem.W.keepIn K (.ref f7) = true)
    (a8 : PySem.W.nsIn K mainGlobals "number_at" = some (some (.ref f8))) (l8 : K.lookup f8 = some ⟨oc8, od8, .func (PySem.W.fnOf "number_at" "number_at" (defArgs (top 24)) (defBody (top 24)) (defScope (top 24)) .none kV8 dc8 pm8 an8 cd8 ct8), sl8⟩) (c8 : PySem.W.codeIn K cd8 "number_at" = true) (k8 : PySem.W.keepIn K (.ref f8) = true)
    (a9 : PySem.W.nsIn K mainGlobals "input_at" = some (some (.ref f9))) (l9 : K.lookup f9 = some ⟨oc9, od9, .func (PySem.W.fnOf "input_at" "input_at" (defArgs (top 25)) (defBody (top 25)) (defScope (top 25)) .none kV9 dc9 pm9 an9 cd9 ct9), sl9⟩) (c9 : PySem.W.codeIn K cd9 "input_at" = true) (k9 : PySem.W.keepIn K (.ref f9) = true)
    (a10 : PySem.W.nsIn K mainGlobals "word_at" = some (some (.ref f10))) (l10 : K.lookup f10 = some ⟨oc10, od10, .func (PySem.W.fnOf "word_at" "word_at" (defArgs (top 26)) (defBody (top 26)) (defScope (top 26)) .none kV10 dc10 pm10 an10 cd10 ct10), sl10⟩) (c10 : PySem.W.codeIn K cd10 "word_at" = true) (k10 : PySem.W.keepIn K (.ref f10) = true)
    (a11 : PySem.W.nsIn K mainGlobals "parts_at" = some (some (.ref f11))) (l11 : K.lookup f11 = some ⟨oc11, od11, .func (PySem.W.fnOf "parts_at" "parts_at" (defArgs (top 27)) (defBody (top 27)) (defScope (top 27)) .none kV11 dc11 pm11 an11 cd11 ct11), sl11⟩) (c11 : PySem.W.codeIn K cd11 "parts_at" = true) (k11 : PySem.W.keepIn K (.ref f11) = true)
    (a12 : PySem.W.nsIn K mainGlobals "term_at" = some (some (.ref f12))) (l12 : K.lookup f12 = some ⟨oc12, od12, .func (PySem.W.fnOf "term_at" "term_at" (defArgs (top 28)) (defBody (top 28)) (defScope (top 28)) .none kV12 dc12 pm12 an12 cd12 ct12), sl12⟩) (c12 : PySem.W.codeIn K cd12 "term_at" = true) (k12 : PySem.W.keepIn K (.ref f12) = true)
    (a13 : PySem.W.nsIn K mainGlobals "term_or_none" = some (some (.ref f13))) (l13 : K.lookup f13 = some ⟨oc13, od13, .func (PySem.W.fnOf "term_or_none" "term_or_none" (defArgs (top 29)) (defBody (top 29)) (defScope (top 29)) .none kV13 dc13 pm13 an13 cd13 ct13), sl13⟩) (c13 : PySem.W.codeIn K cd13 "term_or_none" = true) (k13 : PySem.W.keepIn K (.ref f13) = true)
    (a14 : PySem.W.nsIn K mainGlobals "need_read" = some (some (.ref f14))) (l14 : K.lookup f14 = some ⟨oc14, od14, .func (PySem.W.fnOf "need_read" "need_read" (defArgs (top 30)) (defBody (top 30)) (defScope (top 30)) .none kV14 dc14 pm14 an14 cd14 ct14), sl14⟩) (c14 : PySem.W.codeIn K cd14 "need_read" = true) (k14 : PySem.W.keepIn K (.ref f14) = true)
    (a15 : PySem.W.nsIn K mainGlobals "write_term" = some (some (.ref f15))) (l15 : K.lookup f15 = some ⟨oc15, od15, .func (PySem.W.fnOf "write_term" "write_term" (defArgs (top 32)) (defBody (top 32)) (defScope (top 32)) .none kV15 dc15 pm15 an15 cd15 ct15), sl15⟩) (c15 : PySem.W.codeIn K cd15 "write_term" = true) (k15 : PySem.W.keepIn K (.ref f15) = true)
    (a16 : PySem.W.nsIn K mainGlobals "read_term" = some (some (.ref f16))) (l16 : K.lookup f16 = some ⟨oc16, od16, .func (PySem.W.fnOf "read_term" "read_term" (defArgs (top 33)) (defBody (top 33)) (defScope (top 33)) .none kV16 dc16 pm16 an16 cd16 ct16), sl16⟩) (c16 : PySem.W.codeIn K cd16 "read_term" = true) (k16 : PySem.W.keepIn K (.ref f16) = true)
    (a17 : PySem.W.nsIn K mainGlobals "_law_bag" = some (some (.ref f17))) (l17 : K.lookup f17 = some ⟨oc17, od17, .func (PySem.W.fnOf "_law_bag" "_law_bag" (defArgs (top 35)) (defBody (top 35)) (defScope (top 35)) .none kV17 dc17 pm17 an17 cd17 ct17), sl17⟩) (c17 : PySem.W.codeIn K cd17 "_law_bag" = true) (k17 : PySem.W.keepIn K (.ref f17) = true)
    (a18 : PySem.W.nsIn K mainGlobals "_law_draw" = some (some (.ref f18))) (l18 : K.lookup f18 = some ⟨oc18, od18, .func (PySem.W.fnOf "_law_draw" "_law_draw" (defArgs (top 36)) (defBody (top 36)) (defScope (top 36)) .none kV18 dc18 pm18 an18 cd18 ct18), sl18⟩) (c18 : PySem.W.codeIn K cd18 "_law_draw" = true) (k18 : PySem.W.keepIn K (.ref f18) = true)
    (a19 : PySem.W.nsIn K mainGlobals "_law_choice" = some (some (.ref f19))) (l19 : K.lookup f19 = some ⟨oc19, od19, .func (PySem.W.fnOf "_law_choice" "_law_choice" (defArgs (top 37)) (defBody (top 37)) (defScope (top 37)) .none kV19 dc19 pm19 an19 cd19 ct19), sl19⟩) (c19 : PySem.W.codeIn K cd19 "_law_choice" = true) (k19 : PySem.W.keepIn K (.ref f19) = true)
    (a20 : PySem.W.nsIn K mainGlobals "_law_bags" = some (some (.ref f20))) (l20 : K.lookup f20 = some ⟨oc20, od20, .func (PySem.W.fnOf "_law_bags" "_law_bags" (defArgs (top 38)) (defBody (top 38)) (defScope (top 38)) .none kV20 dc20 pm20 an20 cd20 ct20), sl20⟩) (c20 : PySem.W.codeIn K cd20 "_law_bags" = true) (k20 : PySem.W.keepIn K (.ref f20) = true)
    (a21 : PySem.W.nsIn K mainGlobals "_law_leaf" = some (some (.ref f21))) (l21 : K.lookup f21 = some ⟨oc21, od21, .func (PySem.W.fnOf "_law_leaf" "_law_leaf" (defArgs (top 39)) (defBody (top 39)) (defScope (top 39)) .none kV21 dc21 pm21 an21 cd21 ct21), sl21⟩) (c21 : PySem.W.codeIn K cd21 "_law_leaf" = true) (k21 : PySem.W.keepIn K (.ref f21) = true)
    (a22 : PySem.W.nsIn K mainGlobals "_law_term" = some (some (.ref f22))) (l22 : K.lookup f22 = some ⟨oc22, od22, .func (PySem.W.fnOf "_law_term" "_law_term" (defArgs (top 40)) (defBody (top 40)) (defScope (top 40)) .none kV22 dc22 pm22 an22 cd22 ct22), sl22⟩) (c22 : PySem.W.codeIn K cd22 "_law_term" = true) (k22 : PySem.W.keepIn K (.ref f22) = true)
    (a23 : PySem.W.nsIn K mainGlobals "_law_flat" = some (some (.ref f23))) (l23 : K.lookup f23 = some ⟨oc23, od23, .func (PySem.W.fnOf "_law_flat" "_law_flat" (defArgs (top 41)) (defBody (top 41)) (defScope (top 41)) .none kV23 dc23 pm23 an23 cd23 ct23), sl23⟩) (c23 : PySem.W.codeIn K cd23 "_law_flat" = true) (k23 : PySem.W.keepIn K (.ref f23) = true)
    (a24 : PySem.W.nsIn K mainGlobals "_law_nest" = some (some (.ref f24))) (l24 : K.lookup f24 = some ⟨oc24, od24, .func (PySem.W.fnOf "_law_nest" "_law_nest" (defArgs (top 42)) (defBody (top 42)) (defScope (top 42)) .none kV24 dc24 pm24 an24 cd24 ct24), sl24⟩) (c24 : PySem.W.codeIn K cd24 "_law_nest" = true) (k24 : PySem.W.keepIn K (.ref f24) = true)
    (a25 : PySem.W.nsIn K mainGlobals "_law_any_term" = some (some (.ref f25))) (l25 : K.lookup f25 = some ⟨oc25, od25, .func (PySem.W.fnOf "_law_any_term" "_law_any_term" (defArgs (top 43)) (defBody (top 43)) (defScope (top 43)) .none kV25 dc25 pm25 an25 cd25 ct25), sl25⟩) (c25 : PySem.W.codeIn K cd25 "_law_any_term" = true) (k25 : PySem.W.keepIn K (.ref f25) = true)
    (a26 : PySem.W.nsIn K mainGlobals "_law_text" = some (some (.ref f26))) (l26 : K.lookup f26 = some ⟨oc26, od26, .func (PySem.W.fnOf "_law_text" "_law_text" (defArgs (top 44)) (defBody (top 44)) (defScope (top 44)) .none kV26 dc26 pm26 an26 cd26 ct26), sl26⟩) (c26 : PySem.W.codeIn K cd26 "_law_text" = true) (k26 : PySem.W.keepIn K (.ref f26) = true)
    (a27 : PySem.W.nsIn K mainGlobals "law" = some (some (.ref f27))) (l27 : K.lookup f27 = some ⟨oc27, od27, .func (PySem.W.fnOf "law" "law" (defArgs (top 45)) (defBody (top 45)) (defScope (top 45)) .none kV27 dc27 pm27 an27 cd27 ct27), sl27⟩) (c27 : PySem.W.codeIn K cd27 "law" = true) (k27 : PySem.W.keepIn K (.ref f27) = true)
    (b0 : PySem.W.nsIn K mainGlobals "isinstance" = some none)
    (b1 : PySem.W.nsIn K mainGlobals "len" = some none)
    (b2 : PySem.W.nsIn K mainGlobals "str" = some none)
    (b3 : PySem.W.nsIn K mainGlobals "int" = some none)
    (b4 : PySem.W.nsIn K mainGlobals "tuple" = some none)
    (b5 : PySem.W.nsIn K mainGlobals "max" = some none)
    (b6 : PySem.W.nsIn K mainGlobals "min" = some none)
    (b7 : PySem.W.nsIn K mainGlobals "sum" = some none)
    (b8 : PySem.W.nsIn K mainGlobals "repr" = some none)
    (b9 : PySem.W.nsIn K mainGlobals "sorted" = some none)
    (b10 : PySem.W.nsIn K mainGlobals "range" = some none)
    (b11 : PySem.W.nsIn K mainGlobals "bool" = some none)
    {t0 : Tok} (z0 : PySem.W.nsIn K mainGlobals "MOST_NUMBER" = some (some (.int 999 t0)))
    {t1 : Tok} (z1 : PySem.W.nsIn K mainGlobals "MOST_NODES" = some (some (.int 200 t1)))
    {t2 : Tok} (z2 : PySem.W.nsIn K mainGlobals "MOST_DEEP" = some (some (.int 20 t2)))
    {t3 : Tok} (z3 : PySem.W.nsIn K mainGlobals "MOST_INDEX" = some (some (.int 11 t3)))
    {t4 : Tok} (z4 : PySem.W.nsIn K mainGlobals "MOST_CHILD" = some (some (.int 2 t4)))
    {t5 : Tok} (z5 : PySem.W.nsIn K mainGlobals "FIGURES" = some (some (.str "0123456789" t5)))
    {t6 : Tok} (z6 : PySem.W.nsIn K mainGlobals "MOST_FIGURES" = some (some (.int 3 t6)))
    {pa : Addr} {pes : Array DictEntry} {pn : Nat} (p0 : PySem.W.nsIn K mainGlobals "PARTS" = some (some (.ref pa))) (p1 : K.lookup pa = some ⟨.type "dict", none, .dict pes pn, #[]⟩) (p2 : EntriesAre w.params pes.toList partsL) (p3 : (pa == sysModules) = false) :
    ∃ g, TxtOk K w mg g T := by
  refine ⟨⟨fun n => if n = 0 then some pa else none, fun _ => none⟩, txt_mk ?_ ?_ ?_ ?_⟩
  · exact ⟨ro0 X G a0 l0 c0 k0, ro1 X G a1 l1 c1 k1, ro2 X G a2 l2 c2 k2, ro3 X G a3 l3 c3 k3, ro4 X G a4 l4 c4 k4, ro5 X G a5 l5 c5 k5, ro6 X G a6 l6 c6 k6, ro7 X G a7 l7 c7 k7, ro8 X G a8 l8 c8 k8, ro9 X G a9 l9 c9 k9, ro10 X G a10 l10 c10 k10, ro11 X G a11 l11 c11 k11, ro12 X G a12 l12 c12 k12, ro13 X G a13 l13 c13 k13, ro14 X G a14 l14 c14 k14, ro15 X G a15 l15 c15 k15, ro16 X G a16 l16 c16 k16, ro17 X G a17 l17 c17 k17, ro18 X G a18 l18 c18 k18, ro19 X G a19 l19 c19 k19, ro20 X G a20 l20 c20 k20, ro21 X G a21 l21 c21 k21, ro22 X G a22 l22 c22 k22, ro23 X G a23 l23 c23 k23, ro24 X G a24 l24 c24 k24, ro25 X G a25 l25 c25 k25, ro26 X G a26 l26 c26 k26, ro27 X G a27 l27 c27 k27, trivial⟩
  · exact ⟨PySem.W.mg_none_of X G b0, PySem.W.mg_none_of X G b1, PySem.W.mg_none_of X G b2, PySem.W.mg_none_of X G b3, PySem.W.mg_none_of X G b4, PySem.W.mg_none_of X G b5, PySem.W.mg_none_of X G b6, PySem.W.mg_none_of X G b7, PySem.W.mg_none_of X G b8, PySem.W.mg_none_of X G b9, PySem.W.mg_none_of X G b10, PySem.W.mg_none_of X G b11, trivial⟩
  · exact ⟨⟨_, (.int 999 : V), PySem.W.mg_of X G z0, ⟨t0, rfl⟩, fun _ _ => rfl⟩, ⟨_, (.int 200 : V), PySem.W.mg_of X G z1, ⟨t1, rfl⟩, fun _ _ => rfl⟩, ⟨_, (.int 20 : V), PySem.W.mg_of X G z2, ⟨t2, rfl⟩, fun _ _ => rfl⟩, ⟨_, (.int 11 : V), PySem.W.mg_of X G z3, ⟨t3, rfl⟩, fun _ _ => rfl⟩, ⟨_, (.int 2 : V), PySem.W.mg_of X G z4, ⟨t4, rfl⟩, fun _ _ => rfl⟩, ⟨_, (.str "0123456789" : V), PySem.W.mg_of X G z5, ⟨t5, rfl⟩, fun _ _ => rfl⟩, ⟨_, (.int 3 : V), PySem.W.mg_of X G z6, ⟨t6, rfl⟩, fun _ _ => rfl⟩, ⟨_, (.ref pa : V), PySem.W.mg_of X G p0, rfl, fun _ _ => ⟨_, rfl, rfl⟩⟩, trivial⟩
  · exact ⟨⟨pa, rfl, parts_mk p1 p2 p3⟩⟩
end Q.L92
namespace Q.L92
open PySem L2
def cN (k : Nat) : CF := callN (tabOf T) k
/-- is_integer(thing) -/
def m0 : SS := (sRet (mAnd (mUn (dIsi "int") (mVar 0)) (mNot (mUn (dIsi "bool") (mVar 0)))))
theorem m0_eq : trSs FUEL (tcOf T r0) (defBody r0.st) = m0 := by kernel_rfl
theorem call0 (k : Nat) (xs : List D) (S : Store) : cN (k + 1) 0 xs S = runFn ⟨1, 1, m0⟩ (cN k) xs S := by
  show runFn ⟨1, 1, trSs FUEL (tcOf T r0) (defBody r0.st)⟩ (cN k) _ _ = _
  rw [m0_eq]
/-- is_within(thing, low, high) -/
def m1 : SS := (sRet (mAnd (mCall 0 (mCons (mVar 0) mNil)) (mChain dLe dLe (mVar 1) (mVar 0) (mVar 2))))
theorem m1_eq : trSs FUEL (tcOf T r1) (defBody r1.st) = m1 := by kernel_rfl
theorem call1 (k : Nat) (xs : List D) (S : Store) : cN (k + 1) 1 xs S = runFn ⟨3, 3, m1⟩ (cN k) xs S := by
  show runFn ⟨3, 3, trSs FUEL (tcOf T r1) (defBody r1.st)⟩ (cN k) _ _ = _
  rw [m1_eq]
/-- is_number(thing) -/
def m2 : SS := (sRet (mCall 1 (mCons (mVar 0) (mCons (mC (.int 0)) (mCons (mC (.int 999)) mNil)))))
theorem m2_eq : trSs FUEL (tcOf T r2) (defBody r2.st) = m2 := by kernel_rfl
theorem call2 (k : Nat) (xs : List D) (S : Store) : cN (k + 1) 2 xs S = runFn ⟨1, 1, m2⟩ (cN k) xs S := by
  show runFn ⟨1, 1, trSs FUEL (tcOf T r2) (defBody r2.st)⟩ (cN k) _ _ = _
  rw [m2_eq]
/-- is_input(thing) -/
def m3 : SS := (sSeq (sIf (tOr (tNot (tVal (mUn (dIsi "tuple") (mVar 0)))) (tOr (tVal (mOp dEq (mVar 0) (mTup mNil))) (tNot (tVal (mUn (dIsi "str") (mOp dIx (mVar 0) (mC (.int 0)))))))) (sRet (mC (.bl false))) sSkip) (sSeq (sIf (tVal (mOp dEq (mOp dIx (mVar 0) (mC (.int 0))) (mC (.str [100, 111, 119, 110])))) (sRet (mAnd (mOp dEq (mApp dLen (mCons (mVar 0) mNil)) (mC (.int 2))) (mCall 1 (mCons (mOp dIx (mVar 0) (mC (.int 1))) (mCons (mC (.int 0)) (mCons (mC (.int 11)) mNil)))))) sSkip) (sSeq (sIf (tOr (tVal (mOp dNe (mOp dIx (mVar 0) (mC (.int 0))) (mC (.str [117, 112])))) (tVal (mOp dNe (mApp dLen (mCons (mVar 0) mNil)) (mC (.int 3))))) (sRet (mC (.bl false))) sSkip) (sRet (mAnd (mCall 1 (mCons (mOp dIx (mVar 0) (mC (.int 1))) (mCons (mC (.int 0)) (mCons (mC (.int 2)) mNil)))) (mCall 1 (mCons (mOp dIx (mVar 0) (mC (.int 2))) (mCons (mC (.int 0)) (mCons (mC (.int 11)) mNil)))))))))
theorem m3_eq : trSs FUEL (tcOf T r3) (defBody r3.st) = m3 := by kernel_rfl
theorem call3 (k : Nat) (xs : List D) (S : Store) : cN (k + 1) 3 xs S = runFn ⟨1, 1, m3⟩ (cN k) xs S := by
  show runFn ⟨1, 1, trSs FUEL (tcOf T r3) (defBody r3.st)⟩ (cN k) _ _ = _
  rw [m3_eq]
/-- nodes_of(thing, deep) -/
def m4 : SS := (sSeq (sIf (tVal (mOp dGt (mVar 1) (mC (.int 20)))) (sRet (mC (.non))) sSkip) (sSeq (sIf (tOr (tVal (mCall 2 (mCons (mVar 0) mNil))) (tVal (mCall 3 (mCons (mVar 0) mNil)))) (sRet (mC (.int 1))) sSkip) (sSeq (sIf (tOr (tNot (tVal (mUn (dIsi "tuple") (mVar 0)))) (tOr (tVal (mOp dEq (mVar 0) (mTup mNil))) (tNot (tVal (mUn (dIsi "str") (mOp dIx (mVar 0) (mC (.int 0)))))))) (sRet (mC (.non))) sSkip) (sSeq (sIf (tVal (mOp dNe (mApp dLen (mCons (mVar 0) mNil)) (mOp dAdd (mMeth "dict" dGet (mC (.glb 0)) (mCons (mOp dIx (mVar 0) (mC (.int 0))) (mCons (mUn dNeg (mC (.int 1))) mNil))) (mC (.int 1))))) (sRet (mC (.non))) sSkip) (sSeq (sAsg (mC (.int 1)) (gNm 2)) (sSeq (sFor (iSeq (mSlice dSl (mVar 0) (mPart (mC (.int 1))) mNoPart)) (gNm 3) (sSeq (sAsg (mCall 4 (mCons (mVar 3) (mCons (mOp dAdd (mVar 1) (mC (.int 1))) mNil))) (gNm 4)) (sSeq (sIf (tOr (tVal (mOp dIs (mVar 4) (mC (.non)))) (tVal (mOp dGt (mOp dAdd (mVar 2) (mVar 4)) (mC (.int 200))))) (sRet (mC (.non))) sSkip) (sAug 2 dIadd (mVar 4))))) (sRet (mVar 2))))))))
theorem m4_eq : trSs FUEL (tcOf T r4) (defBody r4.st) = m4 := by kernel_rfl
theorem call4 (k : Nat) (xs : List D) (S : Store) : cN (k + 1) 4 xs S = runFn ⟨2, 5, m4⟩ (cN k) xs S := by
  show runFn ⟨2, 5, trSs FUEL (tcOf T r4) (defBody r4.st)⟩ (cN k) _ _ = _
  rw [m4_eq]
/-- is_term_form(thing) -/
def m5 : SS := (sRet (mOp dIsNot (mCall 4 (mCons (mVar 0) (mCons (mC (.int 1)) mNil))) (mC (.non))))
theorem m5_eq : trSs FUEL (tcOf T r5) (defBody r5.st) = m5 := by kernel_rfl
theorem call5 (k : Nat) (xs : List D) (S : Store) : cN (k + 1) 5 xs S = runFn ⟨1, 1, m5⟩ (cN k) xs S := by
  show runFn ⟨1, 1, trSs FUEL (tcOf T r5) (defBody r5.st)⟩ (cN k) _ _ = _
  rw [m5_eq]
/-- need_term(thing) -/
def m6 : SS := (sIf (tNot (tVal (mCall 5 (mCons (mVar 0) mNil)))) sErr sSkip)
theorem m6_eq : trSs FUEL (tcOf T r6) (defBody r6.st) = m6 := by kernel_rfl
theorem call6 (k : Nat) (xs : List D) (S : Store) : cN (k + 1) 6 xs S = runFn ⟨1, 1, m6⟩ (cN k) xs S := by
  show runFn ⟨1, 1, trSs FUEL (tcOf T r6) (defBody r6.st)⟩ (cN k) _ _ = _
  rw [m6_eq]
/-- term_text(term) -/
def m7 : SS := (sSeq (sIf (tNot (tVal (mUn (dIsi "tuple") (mVar 0)))) (sRet (mApp dStr (mCons (mVar 0) mNil))) sSkip) (sSeq (sIf (tVal (mOp dEq (mOp dIx (mVar 0) (mC (.int 0))) (mC (.str [100, 111, 119, 110])))) (sRet (mOp dAdd (mC (.str [118])) (mApp dStr (mCons (mOp dIx (mVar 0) (mC (.int 1))) mNil)))) sSkip) (sSeq (sIf (tVal (mOp dNotIn (mOp dIx (mVar 0) (mC (.int 0))) (mC (.glb 0)))) (sRet (mOp dAdd (mOp dAdd (mOp dAdd (mC (.str [117])) (mApp dStr (mCons (mOp dIx (mVar 0) (mC (.int 1))) mNil))) (mC (.str [46]))) (mApp dStr (mCons (mOp dIx (mVar 0) (mC (.int 2))) mNil)))) sSkip) (sRet (mOp dAdd (mOp dAdd (mOp dAdd (mOp dIx (mVar 0) (mC (.int 0))) (mC (.str [40]))) (mMeth "str" dJoin (mC (.str [44, 32])) (mCons (mLc (iSeq (mSlice dSl (mVar 0) (mPart (mC (.int 1))) mNoPart)) (gNm 1) tYes (mCall 7 (mCons (mVar 1) mNil)) [1]) mNil))) (mC (.str [41])))))))
theorem m7_eq : trSs FUEL (tcOf T r7) (defBody r7.st) = m7 := by kernel_rfl
theorem call7 (k : Nat) (xs : List D) (S : Store) : cN (k + 1) 7 xs S = runFn ⟨1, 2, m7⟩ (cN k) xs S := by
  show runFn ⟨1, 2, trSs FUEL (tcOf T r7) (defBody r7.st)⟩ (cN k) _ _ = _
  rw [m7_eq]
/-- number_at(text, at) -/
def m8 : SS := (sSeq (sAsg (mVar 1) (gNm 2)) (sSeq (sWhile (tAnd (tVal (mOp dLt (mVar 2) (mApp dLen (mCons (mVar 0) mNil)))) (tVal (mOp dIn (mOp dIx (mVar 0) (mVar 2)) (mC (.str [48, 49, 50, 51, 52, 53, 54, 55, 56, 57]))))) (sAug 2 dIadd (mC (.int 1)))) (sSeq (sIf (tOr (tVal (mOp dEq (mVar 2) (mVar 1))) (tVal (mOp dGt (mOp dSub (mVar 2) (mVar 1)) (mC (.int 3))))) (sRet (mC (.non))) sSkip) (sRet (mTup (mCons (mApp dInt (mCons (mSlice dSl (mVar 0) (mPart (mVar 1)) (mPart (mVar 2))) mNil)) (mCons (mVar 2) mNil)))))))
theorem m8_eq : trSs FUEL (tcOf T r8) (defBody r8.st) = m8 := by kernel_rfl
theorem call8 (k : Nat) (xs : List D) (S : Store) : cN (k + 1) 8 xs S = runFn ⟨2, 3, m8⟩ (cN k) xs S := by
  show runFn ⟨2, 3, trSs FUEL (tcOf T r8) (defBody r8.st)⟩ (cN k) _ _ = _
  rw [m8_eq]
/-- input_at(text, at) -/
def m9 : SS := (sSeq (sAsg (mCall 8 (mCons (mVar 0) (mCons (mOp dAdd (mVar 1) (mC (.int 1))) mNil))) (gNm 2)) (sSeq (sIf (tVal (mOp dIs (mVar 2) (mC (.non)))) (sRet (mC (.non))) sSkip) (sSeq (sIf (tVal (mOp dEq (mOp dIx (mVar 0) (mVar 1)) (mC (.str [118])))) (sRet (mTup (mCons (mTup (mCons (mC (.str [100, 111, 119, 110])) (mCons (mOp dIx (mVar 2) (mC (.int 0))) mNil))) (mCons (mOp dIx (mVar 2) (mC (.int 1))) mNil)))) sSkip) (sSeq (sIf (tVal (mOp dNe (mSlice dSl (mVar 0) (mPart (mOp dIx (mVar 2) (mC (.int 1)))) (mPart (mOp dAdd (mOp dIx (mVar 2) (mC (.int 1))) (mC (.int 1))))) (mC (.str [46])))) (sRet (mC (.non))) sSkip) (sSeq (sAsg (mCall 8 (mCons (mVar 0) (mCons (mOp dAdd (mOp dIx (mVar 2) (mC (.int 1))) (mC (.int 1))) mNil))) (gNm 3)) (sRet (mIf (tVal (mOp dIs (mVar 3) (mC (.non)))) (mC (.non)) (mTup (mCons (mTup (mCons (mC (.str [117, 112])) (mCons (mOp dIx (mVar 2) (mC (.int 0))) (mCons (mOp dIx (mVar 3) (mC (.int 0))) mNil)))) (mCons (mOp dIx (mVar 3) (mC (.int 1))) mNil))))))))))
theorem m9_eq : trSs FUEL (tcOf T r9) (defBody r9.st) = m9 := by kernel_rfl
theorem call9 (k : Nat) (xs : List D) (S : Store) : cN (k + 1) 9 xs S = runFn ⟨2, 4, m9⟩ (cN k) xs S := by
  show runFn ⟨2, 4, trSs FUEL (tcOf T r9) (defBody r9.st)⟩ (cN k) _ _ = _
  rw [m9_eq]
/-- word_at(text, at) -/
def m10 : SS := (sSeq (sFor (iSeq (mApp dSorted (mCons (mC (.glb 0)) mNil))) (gNm 2) (sIf (tVal (mMeth "str" dStarts (mVar 0) (mCons (mOp dAdd (mVar 2) (mC (.str [40]))) (mCons (mVar 1) mNil)))) (sRet (mVar 2)) sSkip)) (sRet (mC (.non))))
theorem m10_eq : trSs FUEL (tcOf T r10) (defBody r10.st) = m10 := by kernel_rfl
theorem call10 (k : Nat) (xs : List D) (S : Store) : cN (k + 1) 10 xs S = runFn ⟨2, 3, m10⟩ (cN k) xs S := by
  show runFn ⟨2, 3, trSs FUEL (tcOf T r10) (defBody r10.st)⟩ (cN k) _ _ = _
  rw [m10_eq]
/-- parts_at(text, at, many, deep) -/
def m11 : SS := (sSeq (sAsg (mLst mNil) (gNm 4)) (sSeq (sFor (iR3 (mCons (mOp dSub (mVar 2) (mC (.int 1))) (mCons (mUn dNeg (mC (.int 1))) (mCons (mUn dNeg (mC (.int 1))) mNil)))) (gNm 5) (sSeq (sAsg (mCall 12 (mCons (mVar 0) (mCons (mVar 1) (mCons (mVar 3) mNil)))) (gNm 6)) (sSeq (sIf (tVal (mOp dIs (mVar 6) (mC (.non)))) (sRet (mC (.non))) sSkip) (sSeq (sExpr (mMeth "list" dAppend (mVar 4) (mCons (mOp dIx (mVar 6) (mC (.int 0))) mNil))) (sSeq (sAsg (mIf (tVal (mOp dGt (mVar 5) (mC (.int 0)))) (mC (.str [44, 32])) (mC (.str [41]))) (gNm 7)) (sSeq (sIf (tNot (tVal (mMeth "str" dStarts (mVar 0) (mCons (mVar 7) (mCons (mOp dIx (mVar 6) (mC (.int 1))) mNil))))) (sRet (mC (.non))) sSkip) (sAsg (mOp dAdd (mOp dIx (mVar 6) (mC (.int 1))) (mApp dLen (mCons (mVar 7) mNil))) (gNm 1)))))))) (sRet (mTup (mCons (mApp dTuple (mCons (mVar 4) mNil)) (mCons (mVar 1) mNil))))))
theorem m11_eq : trSs FUEL (tcOf T r11) (defBody r11.st) = m11 := by kernel_rfl
theorem call11 (k : Nat) (xs : List D) (S : Store) : cN (k + 1) 11 xs S = runFn ⟨4, 8, m11⟩ (cN k) xs S := by
  show runFn ⟨4, 8, trSs FUEL (tcOf T r11) (defBody r11.st)⟩ (cN k) _ _ = _
  rw [m11_eq]
/-- term_at(text, at, deep) -/
def m12 : SS := (sSeq (sIf (tOr (tVal (mOp dGt (mVar 2) (mC (.int 20)))) (tVal (mOp dGe (mVar 1) (mApp dLen (mCons (mVar 0) mNil))))) (sRet (mC (.non))) sSkip) (sSeq (sIf (tVal (mOp dIn (mOp dIx (mVar 0) (mVar 1)) (mC (.str [48, 49, 50, 51, 52, 53, 54, 55, 56, 57])))) (sRet (mCall 8 (mCons (mVar 0) (mCons (mVar 1) mNil)))) sSkip) (sSeq (sIf (tVal (mOp dIn (mOp dIx (mVar 0) (mVar 1)) (mC (.str [118, 117])))) (sRet (mCall 9 (mCons (mVar 0) (mCons (mVar 1) mNil)))) sSkip) (sSeq (sAsg (mCall 10 (mCons (mVar 0) (mCons (mVar 1) mNil))) (gNm 3)) (sSeq (sIf (tVal (mOp dIs (mVar 3) (mC (.non)))) (sRet (mC (.non))) sSkip) (sSeq (sAsg (mCall 11 (mCons (mVar 0) (mCons (mOp dAdd (mOp dAdd (mVar 1) (mApp dLen (mCons (mVar 3) mNil))) (mC (.int 1))) (mCons (mOp dIx (mC (.glb 0)) (mVar 3)) (mCons (mOp dAdd (mVar 2) (mC (.int 1))) mNil))))) (gNm 4)) (sRet (mIf (tVal (mOp dIs (mVar 4) (mC (.non)))) (mC (.non)) (mTup (mCons (mOp dAdd (mTup (mCons (mVar 3) mNil)) (mOp dIx (mVar 4) (mC (.int 0)))) (mCons (mOp dIx (mVar 4) (mC (.int 1))) mNil)))))))))))
theorem m12_eq : trSs FUEL (tcOf T r12) (defBody r12.st) = m12 := by kernel_rfl
theorem call12 (k : Nat) (xs : List D) (S : Store) : cN (k + 1) 12 xs S = runFn ⟨3, 5, m12⟩ (cN k) xs S := by
  show runFn ⟨3, 5, trSs FUEL (tcOf T r12) (defBody r12.st)⟩ (cN k) _ _ = _
  rw [m12_eq]
/-- term_or_none(text) -/
def m13 : SS := (sSeq (sAsg (mCall 12 (mCons (mVar 0) (mCons (mC (.int 0)) (mCons (mC (.int 1)) mNil)))) (gNm 1)) (sSeq (sIf (tOr (tVal (mOp dIs (mVar 1) (mC (.non)))) (tOr (tVal (mOp dNe (mOp dIx (mVar 1) (mC (.int 1))) (mApp dLen (mCons (mVar 0) mNil)))) (tNot (tVal (mCall 5 (mCons (mOp dIx (mVar 1) (mC (.int 0))) mNil)))))) (sRet (mC (.non))) sSkip) (sRet (mIf (tVal (mOp dEq (mCall 7 (mCons (mOp dIx (mVar 1) (mC (.int 0))) mNil)) (mVar 0))) (mOp dIx (mVar 1) (mC (.int 0))) (mC (.non))))))
theorem m13_eq : trSs FUEL (tcOf T r13) (defBody r13.st) = m13 := by kernel_rfl
theorem call13 (k : Nat) (xs : List D) (S : Store) : cN (k + 1) 13 xs S = runFn ⟨1, 2, m13⟩ (cN k) xs S := by
  show runFn ⟨1, 2, trSs FUEL (tcOf T r13) (defBody r13.st)⟩ (cN k) _ _ = _
  rw [m13_eq]
/-- need_read(thing, found) -/
def m14 : SS := (sSeq (sIf (tVal (mOp dIs (mVar 1) (mC (.non)))) sErr sSkip) (sRet (mVar 1)))
theorem m14_eq : trSs FUEL (tcOf T r14) (defBody r14.st) = m14 := by kernel_rfl
theorem call14 (k : Nat) (xs : List D) (S : Store) : cN (k + 1) 14 xs S = runFn ⟨2, 2, m14⟩ (cN k) xs S := by
  show runFn ⟨2, 2, trSs FUEL (tcOf T r14) (defBody r14.st)⟩ (cN k) _ _ = _
  rw [m14_eq]
/-- write_term(term) -/
def m15 : SS := (sSeq (sExpr (mCall 6 (mCons (mVar 0) mNil))) (sRet (mCall 7 (mCons (mVar 0) mNil))))
theorem m15_eq : trSs FUEL (tcOf T r15) (defBody r15.st) = m15 := by kernel_rfl
theorem call15 (k : Nat) (xs : List D) (S : Store) : cN (k + 1) 15 xs S = runFn ⟨1, 1, m15⟩ (cN k) xs S := by
  show runFn ⟨1, 1, trSs FUEL (tcOf T r15) (defBody r15.st)⟩ (cN k) _ _ = _
  rw [m15_eq]
/-- read_term(thing) -/
def m16 : SS := (sRet (mCall 14 (mCons (mVar 0) (mCons (mIf (tVal (mUn (dIsi "str") (mVar 0))) (mCall 13 (mCons (mVar 0) mNil)) (mC (.non))) mNil))))
theorem m16_eq : trSs FUEL (tcOf T r16) (defBody r16.st) = m16 := by kernel_rfl
theorem call16 (k : Nat) (xs : List D) (S : Store) : cN (k + 1) 16 xs S = runFn ⟨1, 1, m16⟩ (cN k) xs S := by
  show runFn ⟨1, 1, trSs FUEL (tcOf T r16) (defBody r16.st)⟩ (cN k) _ _ = _
  rw [m16_eq]
/-- _law_bag(script, k) -/
def m17 : SS := (sSeq (sAsg (mIf (tVal (mOp dLt (mVar 1) (mApp dLen (mCons (mVar 0) mNil)))) (mOp dIx (mVar 0) (mVar 1)) (mOp dAdd (mOp dMul (mC (.int 89)) (mApp dSum (mCons (mSlice dSl (mVar 0) mNoPart (mPart (mC (.int 5)))) mNil))) (mOp dMul (mC (.int 977)) (mOp dAdd (mVar 1) (mC (.int 1)))))) (gNm 2)) (sSeq (sIf (tVal (mOp dGe (mVar 2) (mOp dPow (mC (.int 10)) (mC (.int 18))))) (sRet (mLst (mCons (mOp dSub (mVar 2) (mOp dPow (mC (.int 10)) (mC (.int 18)))) (mCons (mOp dAdd (mOp dMul (mC (.int 5)) (mVar 1)) (mC (.int 23))) (mCons (mC (.int 0)) mNil))))) sSkip) (sRet (mLst (mCons (mC (.int 0)) (mCons (mOp dMod (mApp dInt (mCons (mOp dAdd (mOp dAdd (mOp dMul (mVar 2) (mC (.int 3559))) (mOp dMul (mC (.int 131)) (mVar 1))) (mC (.int 7))) mNil)) (mOp dAdd (mOp dPow (mC (.int 10)) (mC (.int 37))) (mC (.int 43)))) (mCons (mC (.int 0)) mNil)))))))
theorem m17_eq : trSs FUEL (tcOf T r17) (defBody r17.st) = m17 := by kernel_rfl
theorem call17 (k : Nat) (xs : List D) (S : Store) : cN (k + 1) 17 xs S = runFn ⟨2, 3, m17⟩ (cN k) xs S := by
  show runFn ⟨2, 3, trSs FUEL (tcOf T r17) (defBody r17.st)⟩ (cN k) _ _ = _
  rw [m17_eq]
/-- _law_draw(bag, many) -/
def m18 : SS := (sSeq (sIf (tVal (mOp dGt (mOp dIx (mVar 0) (mC (.int 0))) (mC (.int 0)))) (sSeq (sAsg (mOp dMod (mApp dInt (mCons (mOp dIx (mVar 0) (mC (.int 0))) mNil)) (mVar 1)) (gNm 2)) (sSeq (sPut dPut (mVar 0) (mC (.int 0)) (mOp dDiv (mOp dIx (mVar 0) (mC (.int 0))) (mVar 1))) (sRet (mVar 2)))) sSkip) (sSeq (sPut dPut (mVar 0) (mC (.int 2)) (mOp dAdd (mOp dIx (mVar 0) (mC (.int 2))) (mC (.int 1)))) (sSeq (sAsg (mOp dAdd (mOp dIx (mVar 0) (mC (.int 1))) (mOp dMul (mC (.int 9699691)) (mOp dIx (mVar 0) (mC (.int 2))))) (gNm 3)) (sSeq (sAsg (mOp dMod (mApp dInt (mCons (mOp dAdd (mOp dMul (mOp dMul (mVar 3) (mVar 3)) (mVar 3)) (mOp dMul (mOp dMul (mC (.int 40960001)) (mOp dIx (mVar 0) (mC (.int 2)))) (mOp dIx (mVar 0) (mC (.int 2))))) mNil)) (mOp dAdd (mOp dPow (mC (.int 10)) (mC (.int 40))) (mC (.int 121)))) (gNm 3)) (sSeq (sAsg (mOp dMod (mApp dInt (mCons (mOp dAdd (mOp dMul (mVar 3) (mVar 3)) (mOp dMul (mC (.int 611953)) (mVar 3))) mNil)) (mOp dAdd (mOp dPow (mC (.int 10)) (mC (.int 38))) (mC (.int 133)))) (gNm 3)) (sRet (mOp dMod (mApp dInt (mCons (mOp dDiv (mVar 3) (mOp dPow (mC (.int 10)) (mC (.int 10)))) mNil)) (mVar 1))))))))
theorem m18_eq : trSs FUEL (tcOf T r18) (defBody r18.st) = m18 := by kernel_rfl
theorem call18 (k : Nat) (xs : List D) (S : Store) : cN (k + 1) 18 xs S = runFn ⟨2, 4, m18⟩ (cN k) xs S := by
  show runFn ⟨2, 4, trSs FUEL (tcOf T r18) (defBody r18.st)⟩ (cN k) _ _ = _
  rw [m18_eq]
/-- _law_choice(bag, things) -/
def m19 : SS := (sRet (mOp dIx (mVar 1) (mCall 18 (mCons (mVar 0) (mCons (mApp dLen (mCons (mVar 1) mNil)) mNil)))))
theorem m19_eq : trSs FUEL (tcOf T r19) (defBody r19.st) = m19 := by kernel_rfl
theorem call19 (k : Nat) (xs : List D) (S : Store) : cN (k + 1) 19 xs S = runFn ⟨2, 2, m19⟩ (cN k) xs S := by
  show runFn ⟨2, 2, trSs FUEL (tcOf T r19) (defBody r19.st)⟩ (cN k) _ _ = _
  rw [m19_eq]
/-- _law_bags(script, most) -/
def m20 : SS := (sRet (mLc (iR1 (mCons (mApp dMax2 (mCons (mC (.int 1)) (mCons (mApp dMin2 (mCons (mApp dLen (mCons (mVar 0) mNil)) (mCons (mVar 1) mNil))) mNil))) mNil)) (gNm 2) tYes (mCall 17 (mCons (mVar 0) (mCons (mVar 2) mNil))) [2]))
theorem m20_eq : trSs FUEL (tcOf T r20) (defBody r20.st) = m20 := by kernel_rfl
theorem call20 (k : Nat) (xs : List D) (S : Store) : cN (k + 1) 20 xs S = runFn ⟨2, 3, m20⟩ (cN k) xs S := by
  show runFn ⟨2, 3, trSs FUEL (tcOf T r20) (defBody r20.st)⟩ (cN k) _ _ = _
  rw [m20_eq]
/-- _law_leaf(bag) -/
def m21 : SS := (sSeq (sAsg (mCall 18 (mCons (mVar 0) (mCons (mC (.int 4)) mNil))) (gNm 1)) (sSeq (sIf (tVal (mOp dLt (mVar 1) (mC (.int 2)))) (sRet (mIf (tVal (mOp dEq (mVar 1) (mC (.int 0)))) (mCall 18 (mCons (mVar 0) (mCons (mC (.int 1000)) mNil))) (mCall 18 (mCons (mVar 0) (mCons (mC (.int 12)) mNil))))) sSkip) (sRet (mIf (tVal (mOp dEq (mVar 1) (mC (.int 2)))) (mTup (mCons (mC (.str [100, 111, 119, 110])) (mCons (mCall 18 (mCons (mVar 0) (mCons (mC (.int 12)) mNil))) mNil))) (mTup (mCons (mC (.str [117, 112])) (mCons (mCall 18 (mCons (mVar 0) (mCons (mC (.int 3)) mNil))) (mCons (mCall 18 (mCons (mVar 0) (mCons (mC (.int 12)) mNil))) mNil))))))))
theorem m21_eq : trSs FUEL (tcOf T r21) (defBody r21.st) = m21 := by kernel_rfl
theorem call21 (k : Nat) (xs : List D) (S : Store) : cN (k + 1) 21 xs S = runFn ⟨1, 2, m21⟩ (cN k) xs S := by
  show runFn ⟨1, 2, trSs FUEL (tcOf T r21) (defBody r21.st)⟩ (cN k) _ _ = _
  rw [m21_eq]
/-- _law_term(bag, left, deep) -/
def m22 : SS := (sSeq (sIf (tOr (tVal (mOp dLt (mVar 1) (mC (.int 3)))) (tOr (tVal (mOp dLt (mVar 2) (mC (.int 2)))) (tVal (mOp dEq (mCall 18 (mCons (mVar 0) (mCons (mC (.int 9)) mNil))) (mC (.int 0)))))) (sRet (mCall 21 (mCons (mVar 0) mNil))) sSkip) (sSeq (sAsg (mCall 19 (mCons (mVar 0) (mCons (mLst (mCons (mC (.str [112, 108, 117, 115])) (mCons (mC (.str [116, 105, 109, 101, 115])) (mCons (mC (.str [108, 101, 115, 115])) (mCons (mC (.str [108, 101, 97, 115, 116])) (mCons (mC (.str [109, 111, 115, 116])) (mCons (mC (.str [99, 104, 111, 111, 115, 101])) mNil))))))) mNil))) (gNm 3)) (sSeq (sIf (tVal (mOp dNe (mVar 3) (mC (.str [99, 104, 111, 111, 115, 101])))) (sSeq (sAsg (mOp dAdd (mC (.int 1)) (mCall 18 (mCons (mVar 0) (mCons (mOp dSub (mVar 1) (mC (.int 2))) mNil)))) (gNm 4)) (sRet (mTup (mCons (mVar 3) (mCons (mCall 22 (mCons (mVar 0) (mCons (mVar 4) (mCons (mOp dSub (mVar 2) (mC (.int 1))) mNil)))) (mCons (mCall 22 (mCons (mVar 0) (mCons (mOp dSub (mOp dSub (mVar 1) (mC (.int 1))) (mVar 4)) (mCons (mOp dSub (mVar 2) (mC (.int 1))) mNil)))) mNil)))))) sSkip) (sSeq (sAsg (mLst mNil) (gNm 5)) (sSeq (sFor (iR1 (mCons (mC (.int 3)) mNil)) (gNm 6) (sExpr (mMeth "list" dAppend (mVar 5) (mCons (mIf (tVal (mOp dGt (mVar 1) (mC (.int 3)))) (mCall 22 (mCons (mVar 0) (mCons (mApp dMax2 (mCons (mC (.int 1)) (mCons (mOp dDiv (mOp dSub (mVar 1) (mC (.int 1))) (mC (.int 3))) mNil))) (mCons (mOp dSub (mVar 2) (mC (.int 1))) mNil)))) (mCall 21 (mCons (mVar 0) mNil))) mNil)))) (sRet (mIf (tVal (mOp dGt (mVar 1) (mC (.int 3)))) (mOp dAdd (mTup (mCons (mC (.str [99, 104, 111, 111, 115, 101])) mNil)) (mApp dTuple (mCons (mVar 5) mNil))) (mOp dAdd (mTup (mCons (mC (.str [109, 111, 115, 116])) mNil)) (mApp dTuple (mCons (mSlice dSl (mVar 5) mNoPart (mPart (mC (.int 2)))) mNil))))))))))
theorem m22_eq : trSs FUEL (tcOf T r22) (defBody r22.st) = m22 := by kernel_rfl
theorem call22 (k : Nat) (xs : List D) (S : Store) : cN (k + 1) 22 xs S = runFn ⟨3, 7, m22⟩ (cN k) xs S := by
  show runFn ⟨3, 7, trSs FUEL (tcOf T r22) (defBody r22.st)⟩ (cN k) _ _ = _
  rw [m22_eq]
/-- _law_flat(bag, many) -/
def m23 : SS := (sSeq (sIf (tVal (mOp dLt (mVar 1) (mC (.int 4)))) (sRet (mIf (tVal (mOp dEq (mVar 1) (mC (.int 3)))) (mTup (mCons (mC (.str [112, 108, 117, 115])) (mCons (mCall 21 (mCons (mVar 0) mNil)) (mCons (mCall 21 (mCons (mVar 0) mNil)) mNil)))) (mCall 21 (mCons (mVar 0) mNil)))) sSkip) (sSeq (sIf (tVal (mOp dEq (mOp dMod (mApp dInt (mCons (mVar 1) mNil)) (mC (.int 2))) (mC (.int 0)))) (sRet (mTup (mCons (mC (.str [99, 104, 111, 111, 115, 101])) (mCons (mCall 21 (mCons (mVar 0) mNil)) (mCons (mCall 21 (mCons (mVar 0) mNil)) (mCons (mCall 23 (mCons (mVar 0) (mCons (mOp dSub (mVar 1) (mC (.int 3))) mNil))) mNil)))))) sSkip) (sSeq (sAsg (mOp dDiv (mOp dSub (mVar 1) (mC (.int 1))) (mC (.int 2))) (gNm 2)) (sSeq (sAsg (mIf (tVal (mOp dEq (mOp dMod (mApp dInt (mCons (mVar 2) mNil)) (mC (.int 2))) (mC (.int 1)))) (mVar 2) (mOp dSub (mVar 2) (mC (.int 1)))) (gNm 2)) (sRet (mTup (mCons (mC (.str [108, 101, 115, 115])) (mCons (mCall 23 (mCons (mVar 0) (mCons (mVar 2) mNil))) (mCons (mCall 23 (mCons (mVar 0) (mCons (mOp dSub (mOp dSub (mVar 1) (mC (.int 1))) (mVar 2)) mNil))) mNil)))))))))
theorem m23_eq : trSs FUEL (tcOf T r23) (defBody r23.st) = m23 := by kernel_rfl
theorem call23 (k : Nat) (xs : List D) (S : Store) : cN (k + 1) 23 xs S = runFn ⟨2, 3, m23⟩ (cN k) xs S := by
  show runFn ⟨2, 3, trSs FUEL (tcOf T r23) (defBody r23.st)⟩ (cN k) _ _ = _
  rw [m23_eq]
/-- _law_nest(bag, deep) -/
def m24 : SS := (sSeq (sAsg (mCall 21 (mCons (mVar 0) mNil)) (gNm 2)) (sSeq (sFor (iR1 (mCons (mOp dSub (mVar 1) (mC (.int 1))) mNil)) (gNm 3) (sAsg (mIf (tVal (mOp dEq (mCall 18 (mCons (mVar 0) (mCons (mC (.int 2)) mNil))) (mC (.int 0)))) (mTup (mCons (mC (.str [108, 101, 97, 115, 116])) (mCons (mVar 2) (mCons (mCall 21 (mCons (mVar 0) mNil)) mNil)))) (mTup (mCons (mC (.str [116, 105, 109, 101, 115])) (mCons (mCall 21 (mCons (mVar 0) mNil)) (mCons (mVar 2) mNil))))) (gNm 2))) (sRet (mVar 2))))
theorem m24_eq : trSs FUEL (tcOf T r24) (defBody r24.st) = m24 := by kernel_rfl
theorem call24 (k : Nat) (xs : List D) (S : Store) : cN (k + 1) 24 xs S = runFn ⟨2, 4, m24⟩ (cN k) xs S := by
  show runFn ⟨2, 4, trSs FUEL (tcOf T r24) (defBody r24.st)⟩ (cN k) _ _ = _
  rw [m24_eq]
/-- _law_any_term(bag) -/
def m25 : SS := (sSeq (sAsg (mCall 18 (mCons (mVar 0) (mCons (mC (.int 8)) mNil))) (gNm 1)) (sSeq (sIf (tVal (mOp dEq (mVar 1) (mC (.int 0)))) (sRet (mCall 23 (mCons (mVar 0) (mCons (mCall 19 (mCons (mVar 0) (mCons (mLst (mCons (mC (.int 200)) (mCons (mC (.int 199)) (mCons (mC (.int 198)) (mCons (mOp dAdd (mC (.int 3)) (mCall 18 (mCons (mVar 0) (mCons (mC (.int 190)) mNil)))) mNil))))) mNil))) mNil)))) sSkip) (sSeq (sIf (tVal (mOp dEq (mVar 1) (mC (.int 1)))) (sRet (mCall 24 (mCons (mVar 0) (mCons (mCall 19 (mCons (mVar 0) (mCons (mLst (mCons (mC (.int 20)) (mCons (mC (.int 19)) (mCons (mOp dAdd (mC (.int 2)) (mCall 18 (mCons (mVar 0) (mCons (mC (.int 18)) mNil)))) mNil)))) mNil))) mNil)))) sSkip) (sRet (mCall 22 (mCons (mVar 0) (mCons (mCall 19 (mCons (mVar 0) (mCons (mLst (mCons (mC (.int 1)) (mCons (mC (.int 3)) (mCons (mC (.int 5)) (mCons (mC (.int 9)) (mCons (mC (.int 20)) (mCons (mC (.int 60)) mNil))))))) mNil))) (mCons (mC (.int 20)) mNil))))))))
theorem m25_eq : trSs FUEL (tcOf T r25) (defBody r25.st) = m25 := by kernel_rfl
theorem call25 (k : Nat) (xs : List D) (S : Store) : cN (k + 1) 25 xs S = runFn ⟨1, 2, m25⟩ (cN k) xs S := by
  show runFn ⟨1, 2, trSs FUEL (tcOf T r25) (defBody r25.st)⟩ (cN k) _ _ = _
  rw [m25_eq]
/-- _law_text(term) -/
def m26 : SS := (sSeq (sIf (tNot (tVal (mUn (dIsi "tuple") (mVar 0)))) (sRet (mApp dStr (mCons (mVar 0) mNil))) sSkip) (sSeq (sIf (tVal (mOp dEq (mOp dIx (mVar 0) (mC (.int 0))) (mC (.str [100, 111, 119, 110])))) (sRet (mOp dAdd (mC (.str [118])) (mApp dStr (mCons (mOp dIx (mVar 0) (mC (.int 1))) mNil)))) sSkip) (sSeq (sIf (tVal (mOp dEq (mOp dIx (mVar 0) (mC (.int 0))) (mC (.str [117, 112])))) (sRet (mOp dAdd (mOp dAdd (mOp dAdd (mC (.str [117])) (mApp dStr (mCons (mOp dIx (mVar 0) (mC (.int 1))) mNil))) (mC (.str [46]))) (mApp dStr (mCons (mOp dIx (mVar 0) (mC (.int 2))) mNil)))) sSkip) (sRet (mOp dAdd (mOp dAdd (mOp dAdd (mOp dIx (mVar 0) (mC (.int 0))) (mC (.str [40]))) (mMeth "str" dJoin (mC (.str [44, 32])) (mCons (mLc (iSeq (mSlice dSl (mVar 0) (mPart (mC (.int 1))) mNoPart)) (gNm 1) tYes (mCall 26 (mCons (mVar 1) mNil)) [1]) mNil))) (mC (.str [41])))))))
theorem m26_eq : trSs FUEL (tcOf T r26) (defBody r26.st) = m26 := by kernel_rfl
theorem call26 (k : Nat) (xs : List D) (S : Store) : cN (k + 1) 26 xs S = runFn ⟨1, 2, m26⟩ (cN k) xs S := by
  show runFn ⟨1, 2, trSs FUEL (tcOf T r26) (defBody r26.st)⟩ (cN k) _ _ = _
  rw [m26_eq]
/-- law(script) -/
def m27 : SS := (sSeq (sAsg (mTup (mCons (mC (.str [100, 111, 119, 110])) (mCons (mC (.int 11)) mNil))) (gNm 1)) (sSeq (sFor (iSeq (mCall 20 (mCons (mVar 0) (mCons (mC (.int 20)) mNil)))) (gNm 2) (sSeq (sAsg (mCall 25 (mCons (mVar 2) mNil)) (gNm 3)) (sSeq (sPar (mCons (mCall 26 (mCons (mVar 3) mNil)) (mCons (mApp dRepr (mCons (mVar 3) mNil)) mNil)) [4, 5]) (sSeq (sIf (tOr (tVal (mOp dNe (mApp dRepr (mCons (mCall 15 (mCons (mVar 3) mNil)) mNil)) (mApp dRepr (mCons (mVar 4) mNil)))) (tVal (mOp dNe (mApp dRepr (mCons (mCall 16 (mCons (mVar 4) mNil)) mNil)) (mVar 5)))) (sRet (mC (.bl false))) sSkip) (sSeq (sIf (tVal (mOp dNe (mApp dRepr (mCons (mLst (mCons (mCallK 15 [0] (mCons (mVar 1) mNil)) (mCons (mCallK 16 [0] (mCons (mCall 26 (mCons (mVar 1) mNil)) mNil)) mNil))) mNil)) (mApp dRepr (mCons (mLst (mCons (mCall 26 (mCons (mVar 1) mNil)) (mCons (mVar 1) mNil))) mNil)))) (sRet (mC (.bl false))) sSkip) (sSeq (sIf (tVal (mOp dNe (mApp dRepr (mCons (mLst (mCons (mCallK 15 [0] (mCons (mVar 3) mNil)) (mCons (mCallK 16 [0] (mCons (mVar 4) mNil)) (mCons (mVar 3) mNil)))) mNil)) (mApp dRepr (mCons (mLst (mCons (mVar 4) (mCons (mVar 3) (mCons (mVar 3) mNil)))) mNil)))) (sRet (mC (.bl false))) sSkip) (sAsg (mVar 3) (gNm 1)))))))) (sRet (mC (.bl true)))))
theorem m27_eq : trSs FUEL (tcOf T r27) (defBody r27.st) = m27 := by kernel_rfl
theorem call27 (k : Nat) (xs : List D) (S : Store) : cN (k + 1) 27 xs S = runFn ⟨1, 6, m27⟩ (cN k) xs S := by
  show runFn ⟨1, 6, trSs FUEL (tcOf T r27) (defBody r27.st)⟩ (cN k) _ _ = _
  rw [m27_eq]
end Q.L92
namespace Q.L92
open PySem L2
section
variable (S : Store)
/-! ### forms -/
theorem integer_i (k : Nat) (i : Int) : cN (k + 1) 0 [.int i] S = .ok (.bl true) S := by
  rw [call0]; simp [m0]
theorem integer_t (k : Nat) (ds : List D) : cN (k + 1) 0 [.tup ds] S = .ok (.bl false) S := by
  rw [call0]; simp [m0]
theorem within_i (k : Nat) (i lo hi : Int) : cN (k + 2) 1 [.int i, .int lo, .int hi] S = .ok (.bl (decide (lo ≤ i) && decide (i ≤ hi))) S := by
  rw [call1]; simp [m1, integer_i]
  by_cases h : lo ≤ i <;> simp [h]
theorem within_t (k : Nat) (ds : List D) (lo hi : D) : cN (k + 2) 1 [.tup ds, lo, hi] S = .ok (.bl false) S := by
  rw [call1]; simp [m1, integer_t]
theorem number_i (k : Nat) (i : Int) : cN (k + 3) 2 [.int i] S = .ok (.bl (decide (0 ≤ i) && decide (i ≤ 999))) S := by
  rw [call2]; simp [m2, within_i]
theorem number_t (k : Nat) (ds : List D) : cN (k + 3) 2 [.tup ds] S = .ok (.bl false) S := by
  rw [call2]; simp [m2, within_t]
theorem eq_nil {t : Tm} {ds : List D} (h : t.toD = .tup ds) (hd : t.dep ≤ 60) : dEq t.toD (.tup []) S = .ok (.bl false) S := by
  have h1 := t.pyOf_toD S PF (by unfold PF; omega)
  have h2 : pyOf S PF (.tup []) = some (.tuple []) := rfl
  have s1 : SeqAt.shaped t.py = true := by
    unfold SeqAt.shaped
    rw [t.canLay, decide_eq_true (Nat.le_trans t.depth_py (by omega))]; rfl
  have s2 : SeqAt.shaped (.tuple []) = true := by decide +kernel
  have e : PyData.eqv t.py (.tuple []) = false := by cases t <;> first | rfl | cases h
  unfold dEq dEqO
  have : dEqS t.toD (.tup []) = none := by rw [h]; rfl
  rw [this]
  simp only [dEqB, h1, h2, s1, s2, Bool.and_self, if_true, e]
def isIn : Tm → Bool
  | .down _ => true
  | .up _ _ => true
  | _ => false
theorem w_down (w : W2) : w.s ≠ [100, 111, 119, 110] := by cases w <;> decide
theorem w_up (w : W2) : w.s ≠ [117, 112] := by cases w <;> decide
theorem input_ok (k : Nat) (t : Tm) (h : t.ok) (hd : t.dep ≤ 60) : cN (k + 3) 3 [t.toD] S = .ok (.bl (isIn t)) S := by
  rw [call3]
  cases t with
  | num i => simp [m3, Tm.toD, isIn]
  | down i =>
    have e := eq_nil S (t := .down i) rfl hd
    simp only [Tm.toD] at e
    simp only [sDown] at e
    simp [m3, Tm.toD, isIn, e, sDown, within_i, h.1, h.2]
  | up c i =>
    have e := eq_nil S (t := .up c i) rfl hd
    simp only [Tm.toD] at e
    simp only [sUp] at e
    simp [m3, Tm.toD, isIn, sUp, within_i, e, h.1.1, h.1.2, h.2.1, h.2.2]
  | two w a b =>
    have e := eq_nil S (t := .two w a b) rfl hd
    simp only [Tm.toD] at e
    simp [m3, Tm.toD, isIn, e, w_down, w_up]
  | three a b c =>
    have e := eq_nil S (t := .three a b c) rfl hd
    simp only [Tm.toD] at e
    simp only [sChoose] at e
    simp [m3, Tm.toD, isIn, e, sChoose]
/-! ### nodes_of -/
@[simp] theorem get_w (w : W2) (d : D) : dGet (.glb 0) [.str w.s, d] S = .ok (.int 2) S := by cases w <;> rfl
@[simp] theorem get_c (d : D) : dGet (.glb 0) [.str [99, 104, 111, 111, 115, 101], d] S = .ok (.int 3) S := rfl
/-- the loop over the parts -/
abbrev b4 : SS := (sSeq (sAsg (mCall 4 (mCons (mVar 3) (mCons (mOp dAdd (mVar 1) (mC (.int 1))) mNil))) (gNm 4)) (sSeq (sIf (tOr (tVal (mOp dIs (mVar 4) (mC (.non)))) (tVal (mOp dGt (mOp dAdd (mVar 2) (mVar 4)) (mC (.int 200))))) (sRet (mC (.non))) sSkip) (sAug 2 dIadd (mVar 4))))
theorem parts_go (L : List D) (k : Nat) (th : D) (deep : Int) : ∀ (ts : List Tm) (tot : Int) (p s : Option D), (∀ t ∈ ts, cN k 4 [t.toD, .int (deep + 1)] S = .ok (.int t.size) S) → tot + (ts.map Tm.size).sum ≤ 200 →
    ∃ p' s', forGo (It.vals L).holds (gNm 3) (b4 (cN k)) (ts.map Tm.toD) [some th, some (.int deep), some (.int tot), p, s] S = .nxt [some th, some (.int deep), some (.int (tot + (ts.map Tm.size).sum)), p', s'] S
  | [], tot, p, s, _, _ => ⟨p, s, by simp [forGo, It.holds]⟩
  | t :: ts, tot, p, s, h, hs => by
    have h1 := h t (by simp)
    simp only [List.map_cons, List.sum_cons] at hs
    have e : ¬ (200 < tot + (t.size : Int)) := by
      have : (0 : Int) ≤ ((ts.map Tm.size).sum : Nat) := Int.natCast_nonneg _
      omega
    obtain ⟨p', s', ih⟩ := parts_go L k th deep ts (tot + t.size) (some t.toD) (some (.int t.size)) (fun t ht => h t (List.mem_cons_of_mem _ ht)) (by omega)
    refine ⟨p', s', ?_⟩
    simp only [List.map_cons, forGo, gNm, It.holds]
    simp [h1, e]
    rw [ih]
    simp [Int.add_assoc]
def kids : Tm → List Tm
  | .two _ a b => [a, b]
  | .three a b c => [a, b, c]
  | _ => []
theorem nodes_ok : ∀ (t : Tm) (k : Nat) (deep : Int), t.ok → 1 ≤ deep → deep + t.dep ≤ 21 → t.size ≤ 200 → cN (k + 3 + t.dep) 4 [t.toD, .int deep] S = .ok (.int t.size) S := by
  intro t
  have step : ∀ (t : Tm) (k : Nat) (deep : Int), t.ok → 1 ≤ deep → deep + t.dep ≤ 21 → t.size ≤ 200 → (∀ x ∈ kids t, cN (k + 2 + t.dep) 4 [x.toD, .int (deep + 1)] S = .ok (.int x.size) S) → cN (k + 3 + t.dep) 4 [t.toD, .int deep] S = .ok (.int t.size) S := by
    intro t k deep hok h1 hd hs hk
    obtain ⟨j, hj⟩ : ∃ j, k + 2 + t.dep = j + 3 := ⟨k + t.dep - 1, by have := t.dep_pos; omega⟩
    have hj2 : k + 3 + t.dep = j + 3 + 1 := by omega
    rw [hj] at hk
    rw [hj2, call4]
    have d20 : ¬ (20 < deep) := by have := t.dep_pos; omega
    cases t with
    | num i => simp [m4, Tm.toD, Tm.size, d20, number_i, hok.1, hok.2]
    | down i =>
      have e := input_ok S j (.down i) hok (by simp [Tm.dep])
      simp only [Tm.toD] at e
      simp [m4, Tm.toD, Tm.size, d20, number_t, e, isIn]
    | up c i =>
      have e := input_ok S j (.up c i) hok (by simp [Tm.dep])
      simp only [Tm.toD] at e
      simp [m4, Tm.toD, Tm.size, d20, number_t, e, isIn]
    | two w a b =>
      have e := input_ok S j (.two w a b) hok (by omega)
      have e2 := eq_nil S (t := .two w a b) rfl (by omega)
      simp only [Tm.toD] at e e2
      obtain ⟨p', s', g⟩ := parts_go S [a.toD, b.toD] (j + 3) (.tup [.str w.s, a.toD, b.toD]) deep [a, b] 1 none none hk (by simp [Tm.size] at hs ⊢; omega)
      simp only [List.map_cons, List.map_nil] at g
      simp [m4, Tm.toD, Tm.size, d20, number_t, e, isIn, e2, x_for, iSeq, It.items]
      rw [g]
      simp
      omega
    | three a b c =>
      have e := input_ok S j (.three a b c) hok (by omega)
      have e2 := eq_nil S (t := .three a b c) rfl (by omega)
      simp only [Tm.toD, sChoose] at e e2
      obtain ⟨p', s', g⟩ := parts_go S [a.toD, b.toD, c.toD] (j + 3) (.tup [.str sChoose, a.toD, b.toD, c.toD]) deep [a, b, c] 1 none none hk (by simp [Tm.size] at hs ⊢; omega)
      simp only [List.map_cons, List.map_nil, sChoose] at g
      simp [m4, Tm.toD, Tm.size, sChoose, d20, number_t, e, isIn, e2, x_for, iSeq, It.items]
      rw [g]
      simp
      omega
  induction t with
  | num i => intro k deep a b c d; exact step _ k deep a b c d fun x hx => by simp [kids] at hx
  | down i => intro k deep a b c d; exact step _ k deep a b c d fun x hx => by simp [kids] at hx
  | up c i => intro k deep a b c d; exact step _ k deep a b c d fun x hx => by simp [kids] at hx
  | two w a b iha ihb =>
    intro k deep hok h1 hd hs
    simp only [Tm.dep] at hd
    simp only [Tm.size] at hs
    refine step _ k deep hok h1 (by simp only [Tm.dep]; omega) (by simp only [Tm.size]; omega) fun x hx => ?_
    simp only [kids, List.mem_cons, List.not_mem_nil, or_false] at hx
    rcases hx with rfl | rfl
    · have := iha (k + 2 + (1 + max x.dep b.dep) - 3 - x.dep) (deep + 1) hok.1 (by omega) (by omega) (by omega)
      rw [show k + 2 + (1 + max x.dep b.dep) - 3 - x.dep + 3 + x.dep = k + 2 + (Tm.two w x b).dep by simp only [Tm.dep]; omega] at this
      exact this
    · have := ihb (k + 2 + (1 + max a.dep x.dep) - 3 - x.dep) (deep + 1) hok.2 (by omega) (by omega) (by omega)
      rw [show k + 2 + (1 + max a.dep x.dep) - 3 - x.dep + 3 + x.dep = k + 2 + (Tm.two w a x).dep by simp only [Tm.dep]; omega] at this
      exact this
  | three a b c iha ihb ihc =>
    intro k deep hok h1 hd hs
    simp only [Tm.dep] at hd
    simp only [Tm.size] at hs
    refine step _ k deep hok h1 (by simp only [Tm.dep]; omega) (by simp only [Tm.size]; omega) fun x hx => ?_
    simp only [kids, List.mem_cons, List.not_mem_nil, or_false] at hx
    rcases hx with rfl | rfl | rfl
    · have := iha (k + 2 + (1 + max x.dep (max b.dep c.dep)) - 3 - x.dep) (deep + 1) hok.1 (by omega) (by omega) (by omega)
      rw [show k + 2 + (1 + max x.dep (max b.dep c.dep)) - 3 - x.dep + 3 + x.dep = k + 2 + (Tm.three x b c).dep by simp only [Tm.dep]; omega] at this
      exact this
    · have := ihb (k + 2 + (1 + max a.dep (max x.dep c.dep)) - 3 - x.dep) (deep + 1) hok.2.1 (by omega) (by omega) (by omega)
      rw [show k + 2 + (1 + max a.dep (max x.dep c.dep)) - 3 - x.dep + 3 + x.dep = k + 2 + (Tm.three a x c).dep by simp only [Tm.dep]; omega] at this
      exact this
    · have := ihc (k + 2 + (1 + max a.dep (max b.dep x.dep)) - 3 - x.dep) (deep + 1) hok.2.2 (by omega) (by omega) (by omega)
      rw [show k + 2 + (1 + max a.dep (max b.dep x.dep)) - 3 - x.dep + 3 + x.dep = k + 2 + (Tm.three a b x).dep by simp only [Tm.dep]; omega] at this
      exact this
theorem form_ok (t : Tm) (k : Nat) (h : t.ok) (hd : t.dep ≤ 20) (hs : t.size ≤ 200) : cN (k + 30) 5 [t.toD] S = .ok (.bl true) S := by
  rw [call5]
  have := nodes_ok S t (k + 29 - 3 - t.dep) 1 h (by omega) (by omega) hs
  rw [show k + 29 - 3 - t.dep + 3 + t.dep = k + 29 by omega] at this
  simp [m5, this]
theorem need_ok (t : Tm) (k : Nat) (h : t.ok) (hd : t.dep ≤ 20) (hs : t.size ≤ 200) : cN (k + 31) 6 [t.toD] S = .ok .non S := by
  rw [call6]; simp [m6, form_ok S t k h hd hs]
end
end Q.L92
namespace Q
open PySem L2
theorem joinT_eq (a : List Nat) (ys : List (List Nat)) : joinT a ys = TL.joinL a ys := by
  unfold joinT
  rw [show (ys.map mkS) = ys.map SX.S from rfl, show mkS a = SX.S a from rfl, SX.join_S]
def Tm.tx : Tm → List Nat
  | .num i => numT i
  | .down i => 118 :: numT i
  | .up c i => 117 :: (numT c ++ 46 :: numT i)
  | .two w a b => w.s ++ 40 :: (a.tx ++ 44 :: 32 :: (b.tx ++ [41]))
  | .three a b c => sChoose ++ 40 :: (a.tx ++ 44 :: 32 :: (b.tx ++ 44 :: 32 :: (c.tx ++ [41])))
theorem num_len {i : Int} (h0 : 0 ≤ i) (h1 : i ≤ 999) : (numT i).length ≤ 3 := by
  have h := Tm.small_all (p := fun i => decide ((numT i).length ≤ 3)) 1000 (by decide +kernel) h0 (by omega)
  simpa using h
theorem w_len (w : W2) : w.s.length ≤ 5 := by cases w <;> decide
theorem tx_len : ∀ t : Tm, t.ok → t.tx.length ≤ 20 * t.size := by
  intro t
  induction t with
  | num i => intro h; have := num_len h.1 h.2; simp only [Tm.tx, Tm.size]; omega
  | down i => intro h; have := num_len h.1 (by have := h.2; omega); simp only [Tm.tx, Tm.size, List.length_cons]; omega
  | up c i =>
    intro h
    have := num_len h.1.1 (by have := h.1.2; omega)
    have := num_len h.2.1 (by have := h.2.2; omega)
    simp only [Tm.tx, Tm.size, List.length_cons, List.length_append]; omega
  | two w a b iha ihb =>
    intro h
    have h1 := iha h.1
    have h2 := ihb h.2
    have := w_len w
    simp only [Tm.tx, Tm.size, List.length_cons, List.length_append, List.length_nil]; omega
  | three a b c iha ihb ihc =>
    intro h
    have h1 := iha h.1
    have h2 := ihb h.2.1
    have h3 := ihc h.2.2
    have : sChoose.length = 6 := rfl
    simp only [Tm.tx, Tm.size, List.length_cons, List.length_append, List.length_nil]; omega
theorem v_addS {S : Store} {a b : List Nat} (h : a.length + b.length ≤ SL) : dAdd (.str a) (.str b) S = .ok (.str (a ++ b)) S := by
  show (if a.length + b.length ≤ SL then _ else _) = _
  rw [if_pos h]
theorem v_str {S : Store} {i : Int} (h0 : 0 ≤ i) (h1 : i ≤ 999) : dStr [.int i] S = .ok (.str (numT i)) S := by
  show (if i.natAbs < 2 ^ 1900 then _ else _) = _
  have h2 : i.natAbs < 1000 := by omega
  have h3 : (1000 : Nat) < 2 ^ 1900 := by decide +kernel
  rw [if_pos (by omega)]
/-- the texts of the parts, joined -/
theorem allStrs_map (l : List (List Nat)) : allStrs (l.map D.str) = some l := by
  induction l with
  | nil => rfl
  | cons a l ih => simp [allStrs, ih]
theorem join_go {S : Store} {a : List Nat} {l : List (List Nat)} {n : Nat} (h : S[n]? = some (.lst (l.map D.str))) (hl : (l.map (·.length)).sum + l.length * a.length ≤ SL) : dJoin (.str a) [.ref n] S = .ok (.str (TL.joinL a l)) S := by
  show (match lstOf S n with | some ds => joinGo a ds S | none => .err) = _
  have e : lstOf S n = some (l.map D.str) := by unfold lstOf; rw [h]
  rw [e]
  show joinGo a (l.map D.str) S = _
  unfold joinGo
  rw [allStrs_map]
  simp only [joinT_eq]
  rw [if_pos hl]
/-- a list comprehension of calls -/
theorem lc_go {cf : CF} {fn : Nat} {S : Store} {L : List D} {th : D} : ∀ (ts : List Tm) (acc : List D), acc.length + ts.length ≤ 100 → (∀ t ∈ ts, ∀ S', cf fn [t.toD] S' = .ok (.str t.tx) S') →
    lcGo (It.vals L).holds (gNm 1) (tYes cf) (mCall fn (mCons (mVar 1) mNil) cf) S.length [some th, none] (ts.map Tm.toD) (S ++ [.lst acc]) = .ok () (S ++ [.lst (acc ++ ts.map fun t => .str t.tx)])
  | [], acc, _, _ => by simp [lcGo, It.holds]
  | t :: ts, acc, hl, h => by
    simp only [List.length_cons] at hl
    have ih := lc_go (cf := cf) (fn := fn) (S := S) (L := L) (th := th) ts (acc ++ [.str t.tx]) (by simp; omega) (fun t ht => h t (List.mem_cons_of_mem _ ht))
    have h1 := h t (by simp)
    have hs : acc.length < SL := Nat.lt_of_le_of_lt (show acc.length ≤ 100 by omega) (by decide)
    simp only [List.map_cons, lcGo, gNm, It.holds]
    simp [h1, hs]
    rw [ih]
    simp
namespace L92
section
variable (S : Store)
theorem w_dn (w : W2) : (w.s = [100, 111, 119, 110]) = False := by simp [w_down w]
theorem w_u (w : W2) : (w.s = [117, 112]) = False := by simp [w_up w]
@[simp] theorem parts_w (w : W2) : dNotIn (.str w.s) (.glb 0) S = .ok (.bl false) S := by cases w <;> rfl
@[simp] theorem parts_c : dNotIn (.str [99, 104, 111, 111, 115, 101]) (.glb 0) S = .ok (.bl false) S := rfl
@[simp] theorem parts_u : dNotIn (.str [117, 112]) (.glb 0) S = .ok (.bl true) S := rfl
theorem text_of (fn : Nat) (hf : (fn = 7 ∧ ∀ k xs S, cN (k + 1) fn xs S = runFn ⟨1, 2, m7⟩ (cN k) xs S) ∨ (fn = 26 ∧ ∀ k xs S, cN (k + 1) fn xs S = runFn ⟨1, 2, m26⟩ (cN k) xs S)) :
    ∀ (t : Tm) (k : Nat) (S : Store), t.ok → t.size ≤ 200 → cN (k + t.dep) fn [t.toD] S = .ok (.str t.tx) S := by
  have body : ∀ (t : Tm) (k : Nat) (S : Store), t.ok → t.size ≤ 200 → (∀ x ∈ kids t, ∀ S', cN k fn [x.toD] S' = .ok (.str x.tx) S') → cN (k + 1) fn [t.toD] S = .ok (.str t.tx) S := by
    intro t k S hok hs hk
    cases t with
    | num i =>
      have e := v_str (S := S) hok.1 hok.2
      rcases hf with ⟨rfl, hf⟩ | ⟨rfl, hf⟩
      · rw [hf]; simp [m7, Tm.toD, Tm.tx, e]
      · rw [hf]; simp [m26, Tm.toD, Tm.tx, e]
    | down i =>
      have e := v_str (S := S) hok.1 (by have := hok.2; omega)
      have l := num_len hok.1 (by have := hok.2; omega)
      have a := v_addS (S := S) (a := [118]) (b := numT i) (Nat.le_trans (show ([118] : List Nat).length + (numT i).length ≤ 4 by simp; omega) (by decide))
      rcases hf with ⟨rfl, hf⟩ | ⟨rfl, hf⟩
      · rw [hf]; simp [m7, Tm.toD, Tm.tx, sDown, e, a]
      · rw [hf]; simp [m26, Tm.toD, Tm.tx, sDown, e, a]
    | up c i =>
      have e1 := v_str (S := S) hok.1.1 (by have := hok.1.2; omega)
      have e2 := v_str (S := S) hok.2.1 (by have := hok.2.2; omega)
      have l1 := num_len hok.1.1 (by have := hok.1.2; omega)
      have l2 := num_len hok.2.1 (by have := hok.2.2; omega)
      have hS : 20 ≤ SL := by decide
      have a1 := v_addS (S := S) (a := [117]) (b := numT c) (by simp; omega)
      have a2 := v_addS (S := S) (a := [117] ++ numT c) (b := [46]) (by simp; omega)
      have a3 := v_addS (S := S) (a := [117] ++ numT c ++ [46]) (b := numT i) (by simp; omega)
      simp at a1 a2 a3
      rcases hf with ⟨rfl, hf⟩ | ⟨rfl, hf⟩
      · rw [hf]; simp [m7, Tm.toD, Tm.tx, sUp, e1, e2, a1, a2, a3]
      · rw [hf]; simp [m26, Tm.toD, Tm.tx, sUp, e1, e2, a1, a2, a3]
    | two w a b =>
      have g := lc_go (cf := cN k) (fn := fn) (S := S) (L := [a.toD, b.toD]) (th := .tup [.str w.s, a.toD, b.toD]) [a, b] [] (by simp) hk
      simp only [List.map_cons, List.map_nil, List.nil_append] at g
      have l1 := tx_len a hok.1
      have l2 := tx_len b hok.2
      have l3 := w_len w
      simp only [Tm.size] at hs
      have hS : 20000 ≤ SL := by decide
      have j := join_go (S := S ++ [.lst [.str a.tx, .str b.tx]]) (a := [44, 32]) (l := [a.tx, b.tx]) (n := S.length) (by simp) (by simp; omega)
      have jl : TL.joinL [44, 32] [a.tx, b.tx] = a.tx ++ 44 :: 32 :: b.tx := by simp [TL.joinL]
      rw [jl] at j
      have a1 := v_addS (S := S) (a := w.s) (b := [40]) (by simp; omega)
      have a2 := v_addS (S := S ++ [.lst [.str a.tx, .str b.tx]]) (a := w.s ++ [40]) (b := a.tx ++ 44 :: 32 :: b.tx) (by simp; omega)
      have a3 := v_addS (S := S ++ [.lst [.str a.tx, .str b.tx]]) (a := w.s ++ [40] ++ (a.tx ++ 44 :: 32 :: b.tx)) (b := [41]) (by simp; omega)
      simp at a1 a2 a3
      have td := tidy_app (S := S) (T := [.lst [.str a.tx, .str b.tx]]) (d := .str (w.s ++ 40 :: (a.tx ++ 44 :: 32 :: (b.tx ++ [41])))) rfl
      rcases hf with ⟨rfl, hf⟩ | ⟨rfl, hf⟩
      · rw [hf]; simp [m7, Tm.toD, Tm.tx, w_dn, w_u, mLc, iSeq, wipeD, It.items, g, j, a1, a2, a3, td]
      · rw [hf]; simp [m26, Tm.toD, Tm.tx, w_dn, w_u, mLc, iSeq, wipeD, It.items, g, j, a1, a2, a3, td]
    | three a b c =>
      have g := lc_go (cf := cN k) (fn := fn) (S := S) (L := [a.toD, b.toD, c.toD]) (th := .tup [.str [99, 104, 111, 111, 115, 101], a.toD, b.toD, c.toD]) [a, b, c] [] (by simp) hk
      simp only [List.map_cons, List.map_nil, List.nil_append] at g
      have l1 := tx_len a hok.1
      have l2 := tx_len b hok.2.1
      have l3 := tx_len c hok.2.2
      simp only [Tm.size] at hs
      have hS : 20000 ≤ SL := by decide
      have j := join_go (S := S ++ [.lst [.str a.tx, .str b.tx, .str c.tx]]) (a := [44, 32]) (l := [a.tx, b.tx, c.tx]) (n := S.length) (by simp) (by simp; omega)
      have jl : TL.joinL [44, 32] [a.tx, b.tx, c.tx] = a.tx ++ 44 :: 32 :: (b.tx ++ 44 :: 32 :: c.tx) := by simp [TL.joinL]
      rw [jl] at j
      have a1 := v_addS (S := S) (a := [99, 104, 111, 111, 115, 101]) (b := [40]) (by simp; omega)
      have a2 := v_addS (S := S ++ [.lst [.str a.tx, .str b.tx, .str c.tx]]) (a := [99, 104, 111, 111, 115, 101] ++ [40]) (b := a.tx ++ 44 :: 32 :: (b.tx ++ 44 :: 32 :: c.tx)) (by simp; omega)
      have a3 := v_addS (S := S ++ [.lst [.str a.tx, .str b.tx, .str c.tx]]) (a := [99, 104, 111, 111, 115, 101] ++ [40] ++ (a.tx ++ 44 :: 32 :: (b.tx ++ 44 :: 32 :: c.tx))) (b := [41]) (by simp; omega)
      simp at a1 a2 a3
      have td := tidy_app (S := S) (T := [.lst [.str a.tx, .str b.tx, .str c.tx]]) (d := .str (99 :: 104 :: 111 :: 111 :: 115 :: 101 :: 40 :: (a.tx ++ 44 :: 32 :: (b.tx ++ 44 :: 32 :: (c.tx ++ [41]))))) rfl
      rcases hf with ⟨rfl, hf⟩ | ⟨rfl, hf⟩
      · rw [hf]; simp [m7, Tm.toD, Tm.tx, sChoose, mLc, iSeq, wipeD, It.items, g, j, a1, a2, a3, td]
      · rw [hf]; simp [m26, Tm.toD, Tm.tx, sChoose, mLc, iSeq, wipeD, It.items, g, j, a1, a2, a3, td]
  intro t
  induction t with
  | num i => intro k S a b; exact body _ k S a b fun x hx => by simp [kids] at hx
  | down i => intro k S a b; exact body _ k S a b fun x hx => by simp [kids] at hx
  | up c i => intro k S a b; exact body _ k S a b fun x hx => by simp [kids] at hx
  | two w a b iha ihb =>
    intro k S hok hs
    simp only [Tm.size] at hs
    rw [show k + (Tm.two w a b).dep = (k + max a.dep b.dep) + 1 by simp only [Tm.dep]; omega]
    refine body _ _ S hok (by simp only [Tm.size]; omega) fun x hx S' => ?_
    simp only [kids, List.mem_cons, List.not_mem_nil, or_false] at hx
    rcases hx with rfl | rfl
    · have := iha (k + max x.dep b.dep - x.dep) S' hok.1 (by omega)
      rwa [show k + max x.dep b.dep - x.dep + x.dep = k + max x.dep b.dep by omega] at this
    · have := ihb (k + max a.dep x.dep - x.dep) S' hok.2 (by omega)
      rwa [show k + max a.dep x.dep - x.dep + x.dep = k + max a.dep x.dep by omega] at this
  | three a b c iha ihb ihc =>
    intro k S hok hs
    simp only [Tm.size] at hs
    rw [show k + (Tm.three a b c).dep = (k + max a.dep (max b.dep c.dep)) + 1 by simp only [Tm.dep]; omega]
    refine body _ _ S hok (by simp only [Tm.size]; omega) fun x hx S' => ?_
    simp only [kids, List.mem_cons, List.not_mem_nil, or_false] at hx
    rcases hx with rfl | rfl | rfl
    · have := iha (k + max x.dep (max b.dep c.dep) - x.dep) S' hok.1 (by omega)
      rwa [show k + max x.dep (max b.dep c.dep) - x.dep + x.dep = k + max x.dep (max b.dep c.dep) by omega] at this
    · have := ihb (k + max a.dep (max x.dep c.dep) - x.dep) S' hok.2.1 (by omega)
      rwa [show k + max a.dep (max x.dep c.dep) - x.dep + x.dep = k + max a.dep (max x.dep c.dep) by omega] at this
    · have := ihc (k + max a.dep (max b.dep x.dep) - x.dep) S' hok.2.2 (by omega)
      rwa [show k + max a.dep (max b.dep x.dep) - x.dep + x.dep = k + max a.dep (max b.dep x.dep) by omega] at this
theorem text7 (t : Tm) (k : Nat) (h : t.ok) (hd : t.dep ≤ 20) (hs : t.size ≤ 200) : cN (k + 20) 7 [t.toD] S = .ok (.str t.tx) S := by
  have := text_of 7 (.inl ⟨rfl, call7⟩) t (k + 20 - t.dep) S h hs
  rwa [show k + 20 - t.dep + t.dep = k + 20 by omega] at this
theorem text26 (t : Tm) (k : Nat) (h : t.ok) (hd : t.dep ≤ 20) (hs : t.size ≤ 200) : cN (k + 20) 26 [t.toD] S = .ok (.str t.tx) S := by
  have := text_of 26 (.inr ⟨rfl, call26⟩) t (k + 20 - t.dep) S h hs
  rwa [show k + 20 - t.dep + t.dep = k + 20 by omega] at this
theorem write_ok (t : Tm) (k : Nat) (h : t.ok) (hd : t.dep ≤ 20) (hs : t.size ≤ 200) : cN (k + 32) 15 [t.toD] S = .ok (.str t.tx) S := by
  rw [call15]; simp [m15, need_ok S t k h hd hs, text7 S t (k + 11) h hd hs]
end
end L92
end Q
namespace Q
open PySem L2
abbrev FIG : List Nat := [48, 49, 50, 51, 52, 53, 54, 55, 56, 57]
def isFig (c : Nat) : Bool := FIG.contains c
def notFig (post : List Nat) : Prop := ∀ c, post.head? = some c → isFig c = false
section
variable {S : Store} {s b : List Nat} {p : Int} {c : Nat}
theorem v_lenS (h : s.length ≤ SL) : dLen [.str s] S = .ok (.int s.length) S := by
  show (if s.length ≤ SL then _ else _) = _
  rw [if_pos h]
theorem v_ixS (h : s.length ≤ SL) (hp : atI s p = some c) : dIx (.str s) (.int p) S = .ok (.str [c]) S := by
  show (if s.length ≤ SL then (match atI s p with | some c => Res.ok (D.str [c]) S | none => Res.err) else _) = _
  rw [if_pos h, hp]
theorem v_in1 : dIn (.str [c]) (.str b) S = .ok (.bl (b.contains c)) S := by
  show Res.ok (D.bl (strIn [c] b)) S = _
  rw [in_one]
@[simp] theorem v_inF : dIn (.str [c]) (.str [48, 49, 50, 51, 52, 53, 54, 55, 56, 57]) S = .ok (.bl (isFig c)) S := v_in1
theorem v_slS {lo hi : Option Int} (h : s.length ≤ SL) : dSl (.str s) lo hi S = .ok (.str (cutL s lo hi)) S := by
  show (if s.length ≤ SL then _ else _) = _
  rw [if_pos h]
@[simp] theorem v_starts {i : Int} : dStarts (.str s) [.str b, .int i] S = .ok (.bl (startsT s b i)) S := rfl
end
theorem num_figs {i : Int} (h0 : 0 ≤ i) (h1 : i ≤ 999) : (numT i).all (isFig) = true ∧ 1 ≤ (numT i).length ∧ intText? (mkS (numT i)) = some i := by
  have h := Tm.small_all (p := fun i => (numT i).all (isFig) && (decide (1 ≤ (numT i).length) && decide (intText? (mkS (numT i)) = some i))) 1000 (by decide +kernel) h0 (by omega)
  simp only [Bool.and_eq_true, decide_eq_true_eq] at h
  exact ⟨h.1, h.2.1, h.2.2⟩
namespace L92
abbrev t8 : ST := (tAnd (tVal (mOp dLt (mVar 2) (mApp dLen (mCons (mVar 0) mNil)))) (tVal (mOp dIn (mOp dIx (mVar 0) (mVar 2)) (mC (.str [48, 49, 50, 51, 52, 53, 54, 55, 56, 57])))))
abbrev b8 : SS := (sAug 2 dIadd (mC (.int 1)))
theorem while8 {cf : CF} {S : Store} {T post : List Nat} {at_ : D} (hT : T.length ≤ SL) (hp : notFig post) : ∀ (ds pre : List Nat) (n : Nat) (e : Int), ds.all (isFig) = true → ds.length < n → T = pre ++ (ds ++ post) → e = pre.length →
    whileGo (t8 cf) (b8 cf) n [some (.str T), some at_, some (.int e)] S = .nxt [some (.str T), some at_, some (.int (e + ds.length))] S
  | [], pre, 0, e, _, hn, _, _ => absurd hn (Nat.not_lt_zero _)
  | [], pre, n + 1, e, _, hn, hE, he => by
    simp only [whileGo]
    simp [v_lenS hT]
    rw [List.nil_append] at hE
    cases post with
    | nil =>
      have : ¬ e < (T.length : Int) := by rw [hE, he]; simp
      simp [this]
    | cons c post =>
      have h1 : e < (T.length : Int) := by rw [hE, he]; simp; omega
      have h2 := v_ixS (S := S) hT (at_one (p := e) hE he)
      have h3 := hp c rfl
      simp [h1, h2, h3]
  | d :: ds, pre, 0, e, _, hn, _, _ => absurd hn (Nat.not_lt_zero _)
  | d :: ds, pre, n + 1, e, hd, hn, hE, he => by
    simp only [List.all_cons, Bool.and_eq_true] at hd
    have h1 : e < (T.length : Int) := by rw [hE, he]; simp; omega
    have h2 := v_ixS (S := S) (c := d) hT (at_one (p := e) (pre := pre) (x := ds ++ post) (by rw [hE]; rfl) he)
    have ih := while8 (cf := cf) (S := S) (at_ := at_) hT hp ds (pre ++ [d]) n (e + 1) hd.2 (by simp at hn; omega) (by rw [hE]; simp) (by rw [he]; simp)
    simp only [whileGo]
    simp [v_lenS hT, h1, h2]
    simp [hd.1]
    rw [ih]
    simp
    omega
theorem number_at (k : Nat) (S : Store) {T pre post : List Nat} {i p : Int} (hT : T.length ≤ SL) (h0 : 0 ≤ i) (h1 : i ≤ 999) (hE : T = pre ++ (numT i ++ post)) (hp : p = pre.length) (hn : notFig post) :
    cN (k + 1) 8 [.str T, .int p] S = .ok (.tup [.int i, .int (p + (numT i).length)]) S := by
  obtain ⟨f1, f2, f3⟩ := num_figs h0 h1
  have f4 := num_len h0 h1
  have hw : (numT i).length < WT := Nat.lt_of_le_of_lt f4 (by decide)
  have w := while8 (cf := cN k) (S := S) (at_ := .int p) hT hn (numT i) pre WT p f1 hw hE hp
  have c := cut_mid (pre := pre) (x := numT i) (post := post) (p := p) (q := p + (numT i).length) hp (by rw [hp])
  rw [← hE] at c
  have e1 : ¬ (p + ((numT i).length : Int) = p) := by omega
  have e2 : ¬ (3 < p + ((numT i).length : Int) - p) := by omega
  have e3 : dInt [.str (numT i)] S = .ok (.int i) S := by
    show (if (numT i).length ≤ 640 then (match intText? (mkS (numT i)) with | some n => Res.ok (D.int n) S | none => Res.err) else _) = _
    rw [if_pos (by omega), f3]
  rw [call8]
  simp [m8, x_while]
  rw [w]
  simp [e1, e2, v_slS hT, c, e3]
theorem input_down (k : Nat) (S : Store) {T pre post : List Nat} {i p : Int} (hT : T.length ≤ SL) (h0 : 0 ≤ i) (h1 : i ≤ 999) (hE : T = pre ++ (118 :: (numT i ++ post))) (hp : p = pre.length) (hn : notFig post) :
    cN (k + 2) 9 [.str T, .int p] S = .ok (.tup [.tup [.str sDown, .int i], .int (p + 1 + (numT i).length)]) S := by
  have n := number_at k S (pre := pre ++ [118]) (p := p + 1) hT h0 h1 (by rw [hE]; simp) (by rw [hp]; simp) hn
  have x := v_ixS (S := S) hT (at_one (p := p) hE hp)
  rw [call9]
  simp [m9, n, x, sDown]
theorem input_up (k : Nat) (S : Store) {T pre post : List Nat} {c i p : Int} (hT : T.length ≤ SL) (c0 : 0 ≤ c) (c1 : c ≤ 999) (h0 : 0 ≤ i) (h1 : i ≤ 999) (hE : T = pre ++ (117 :: (numT c ++ 46 :: (numT i ++ post)))) (hp : p = pre.length) (hn : notFig post) :
    cN (k + 2) 9 [.str T, .int p] S = .ok (.tup [.tup [.str sUp, .int c, .int i], .int (p + 1 + (numT c).length + 1 + (numT i).length)]) S := by
  have n1 := number_at k S (pre := pre ++ [117]) (p := p + 1) (post := 46 :: (numT i ++ post)) hT c0 c1 (by rw [hE]; simp) (by rw [hp]; simp) (fun c h => by simp at h; subst h; rfl)
  have n2 := number_at k S (pre := pre ++ 117 :: (numT c ++ [46])) (p := p + 1 + (numT c).length + 1) hT h0 h1 (by rw [hE]; simp) (by rw [hp]; simp; omega) hn
  have x := v_ixS (S := S) hT (at_one (p := p) hE hp)
  have d := cut_mid (pre := pre ++ 117 :: numT c) (x := [46]) (post := numT i ++ post) (p := p + 1 + (numT c).length) (q := p + 1 + (numT c).length + 1) (by rw [hp]; simp; omega) (by rw [hp]; simp; omega)
  have hE2 : pre ++ 117 :: numT c ++ ([46] ++ (numT i ++ post)) = T := by rw [hE]; simp
  rw [hE2] at d
  rw [call9]
  simp [m9, n1, x, v_slS hT, d, n2, sUp]
end L92
end Q
namespace Q
open PySem L2
@[simp] theorem v_ixPw {S : Store} (w : W2) : dIx (.glb 0) (.str w.s) S = .ok (.int 2) S := by cases w <;> rfl
@[simp] theorem v_ixPc {S : Store} : dIx (.glb 0) (.str [99, 104, 111, 111, 115, 101]) S = .ok (.int 3) S := rfl
theorem v_addT {S : Store} {a b : List D} (h : a.length + b.length ≤ SL) : dAdd (.tup a) (.tup b) S = .ok (.tup (a ++ b)) S := by
  show (if a.length + b.length ≤ SL then _ else _) = _
  rw [if_pos h]
theorem v_append {S : Store} {n : Nat} {d : D} {ds : List D} (h : S[n]? = some (.lst ds)) (hl : ds.length < SL) : dAppend (.ref n) [d] S = .ok .non (S.set n (.lst (ds ++ [d]))) := by
  show (match S[n]? with | some (.lst ds) => if ds.length < SL then Res.ok D.non (S.set n (.lst (ds ++ [d]))) else Res.err | _ => Res.err) = _
  rw [h]
  simp only [if_pos hl]
theorem v_newLst {S : Store} {ds : List D} (h : ds.length ≤ SL) : newLst ds S = .ok (.ref S.length) (S ++ [.lst ds]) := by
  unfold newLst
  rw [if_pos h]
namespace L92
/-! ### word_at -/
def isW : List Nat → Bool
  | w => partsS.any fun x => decide (x.cps.toList = w)
theorem sorted_v {S : Store} : dSorted [.glb 0] S = .ok (.ref S.length) (S ++ [.lst [.str [99, 104, 111, 111, 115, 101], .str [108, 101, 97, 115, 116], .str [108, 101, 115, 115], .str [109, 111, 115, 116], .str [112, 108, 117, 115], .str [116, 105, 109, 101, 115]]]) := by
  have e : (partsS.map fun x => D.str x.cps.toList) = [.str [99, 104, 111, 111, 115, 101], .str [108, 101, 97, 115, 116], .str [108, 101, 115, 115], .str [109, 111, 115, 116], .str [112, 108, 117, 115], .str [116, 105, 109, 101, 115]] := by decide +kernel
  show Res.ok (D.ref S.length) (S ++ [.lst (partsS.map fun x => D.str x.cps.toList)]) = _
  rw [e]
theorem addS_small {S : Store} {a b : List Nat} (h : decide (a.length + b.length ≤ 100) = true) : dAdd (.str a) (.str b) S = .ok (.str (a ++ b)) S :=
  v_addS (Nat.le_trans (of_decide_eq_true h) (by decide))
theorem word_gen (k : Nat) (S : Store) {T pre rest w : List Nat} {p : Int} (hw : w = sChoose ∨ ∃ u : W2, w = u.s) (hE : T = pre ++ (w ++ 40 :: rest)) (hp : p = pre.length) :
    cN (k + 1) 10 [.str T, .int p] S = .ok (.str w) S := by
  have a1 : ∀ S, dAdd (.str [99, 104, 111, 111, 115, 101]) (.str [40]) S = .ok (.str [99, 104, 111, 111, 115, 101, 40]) S := fun S => addS_small rfl
  have a2 : ∀ S, dAdd (.str [108, 101, 97, 115, 116]) (.str [40]) S = .ok (.str [108, 101, 97, 115, 116, 40]) S := fun S => addS_small rfl
  have a3 : ∀ S, dAdd (.str [108, 101, 115, 115]) (.str [40]) S = .ok (.str [108, 101, 115, 115, 40]) S := fun S => addS_small rfl
  have a4 : ∀ S, dAdd (.str [109, 111, 115, 116]) (.str [40]) S = .ok (.str [109, 111, 115, 116, 40]) S := fun S => addS_small rfl
  have a5 : ∀ S, dAdd (.str [112, 108, 117, 115]) (.str [40]) S = .ok (.str [112, 108, 117, 115, 40]) S := fun S => addS_small rfl
  have a6 : ∀ S, dAdd (.str [116, 105, 109, 101, 115]) (.str [40]) S = .ok (.str [116, 105, 109, 101, 115, 40]) S := fun S => addS_small rfl
  have st : ∀ b, startsT T b p = ((w ++ 40 :: rest).take b.length == b) := fun b => starts_iff hE hp
  have td : ∀ (x : List Nat) (o : Ob), tidy S (.str x) (S ++ [o]) = .ok (.str x) S := fun x o => tidy_app (T := [o]) rfl
  rw [call10]
  rcases hw with rfl | ⟨u, rfl⟩
  · simp [m10, sorted_v, x_for, iSeq, It.items, It.holds, forGo, gNm, a1, st, sChoose, td]
  · cases u <;> simp [m10, sorted_v, x_for, iSeq, It.items, It.holds, forGo, gNm, a1, a2, a3, a4, a5, a6, st, W2.s, td]
/-! ### parts_at -/
def ends : List Tm → List Nat → List Nat
  | [], post => post
  | [t], post => t.tx ++ 41 :: post
  | t :: u :: ts, post => t.tx ++ 44 :: 32 :: ends (u :: ts) post
def dn : Nat → List D
  | 0 => []
  | n + 1 => .int (n : Nat) :: dn n
abbrev b11 : SS := (sSeq (sAsg (mCall 12 (mCons (mVar 0) (mCons (mVar 1) (mCons (mVar 3) mNil)))) (gNm 6)) (sSeq (sIf (tVal (mOp dIs (mVar 6) (mC (.non)))) (sRet (mC (.non))) sSkip) (sSeq (sExpr (mMeth "list" dAppend (mVar 4) (mCons (mOp dIx (mVar 6) (mC (.int 0))) mNil))) (sSeq (sAsg (mIf (tVal (mOp dGt (mVar 5) (mC (.int 0)))) (mC (.str [44, 32])) (mC (.str [41]))) (gNm 7)) (sSeq (sIf (tNot (tVal (mMeth "str" dStarts (mVar 0) (mCons (mVar 7) (mCons (mOp dIx (mVar 6) (mC (.int 1))) mNil))))) (sRet (mC (.non))) sSkip) (sAsg (mOp dAdd (mOp dIx (mVar 6) (mC (.int 1))) (mApp dLen (mCons (mVar 7) mNil))) (gNm 1)))))))
/-- what term_at does with t, at level k -/
def Reads (k : Nat) (deep : Int) (T : List Nat) (t : Tm) : Prop := ∀ (S : Store) (pre post : List Nat) (p : Int), T = pre ++ (t.tx ++ post) → p = pre.length → notFig post → cN k 12 [.str T, .int p, .int deep] S = .ok (.tup [t.toD, .int (p + t.tx.length)]) S
theorem len_sm {S : Store} {s : List Nat} (h : decide (s.length ≤ 100) = true) : dLen [.str s] S = .ok (.int s.length) S := v_lenS (Nat.le_trans (of_decide_eq_true h) (by decide))
theorem parts_loop (k : Nat) (S : Store) (L : List D) {T post : List Nat} {deep : Int} {m : D} : ∀ (ts : List Tm) (acc : List D) (pre : List Nat) (p : Int) (u5 u6 u7 : Option D), T = pre ++ ends ts post → p = pre.length → (∀ t ∈ ts, Reads k deep T t) → acc.length + ts.length ≤ 100 →
    ∃ u5' u6' u7', forGo (It.vals L).holds (gNm 5) (b11 (cN k)) (dn ts.length) [some (.str T), some (.int p), some m, some (.int deep), some (.ref S.length), u5, u6, u7] (S ++ [.lst acc]) =
      .nxt [some (.str T), some (.int ((T.length : Int) - post.length)), some m, some (.int deep), some (.ref S.length), u5', u6', u7'] (S ++ [.lst (acc ++ ts.map Tm.toD)])
  | [], acc, pre, p, u5, u6, u7, hE, hp, _, _ => ⟨u5, u6, u7, by
    have : (T.length : Int) - post.length = p := by rw [hE, hp]; simp [ends]
    simp [dn, forGo, It.holds, this]⟩
  | [t], acc, pre, p, u5, u6, u7, hE, hp, h, hl => by
    have r := h t (by simp) (S ++ [.lst acc]) pre (41 :: post) p hE hp (fun c q => by simp at q; subst q; rfl)
    have hs : acc.length < SL := Nat.lt_of_lt_of_le (show acc.length < 101 by simp at hl; omega) (by decide)
    have ap := v_append (S := S ++ [.lst acc]) (n := S.length) (d := t.toD) (ds := acc) (by simp) hs
    have st := starts_iff (a := T) (b := [41]) (pre := pre ++ t.tx) (p := p + t.tx.length) (x := 41 :: post) (by rw [hE]; simp [ends]) (by rw [hp]; simp)
    have ty : typeD (S ++ [.lst acc]) (.ref S.length) = some "list" := by simp [typeD]
    have ln := len_sm (S := S ++ [.lst (acc ++ [t.toD])]) (s := [41]) rfl
    have e : (T.length : Int) - post.length = p + t.tx.length + 1 := by rw [hE, hp]; simp [ends]; omega
    refine ⟨some (.int 0), some (.tup [t.toD, .int (p + t.tx.length)]), some (.str [41]), ?_⟩
    simp at ap
    simp [dn, forGo, It.holds, gNm, r, ty, ap, st, ln, e]
  | t :: u :: ts, acc, pre, p, u5, u6, u7, hE, hp, h, hl => by
    have r := h t (by simp) (S ++ [.lst acc]) pre (44 :: 32 :: ends (u :: ts) post) p hE hp (fun c q => by simp at q; subst q; rfl)
    have hs : acc.length < SL := Nat.lt_of_lt_of_le (show acc.length < 101 by simp at hl; omega) (by decide)
    have ap := v_append (S := S ++ [.lst acc]) (n := S.length) (d := t.toD) (ds := acc) (by simp) hs
    have st := starts_iff (a := T) (b := [44, 32]) (pre := pre ++ t.tx) (p := p + t.tx.length) (x := 44 :: 32 :: ends (u :: ts) post) (by rw [hE]; simp [ends]) (by rw [hp]; simp)
    have ty : typeD (S ++ [.lst acc]) (.ref S.length) = some "list" := by simp [typeD]
    have ln := len_sm (S := S ++ [.lst (acc ++ [t.toD])]) (s := [44, 32]) rfl
    obtain ⟨v5, v6, v7, ih⟩ := parts_loop k S L (post := post) (u :: ts) (acc ++ [t.toD]) (pre ++ t.tx ++ [44, 32]) (p + t.tx.length + 2) (some (.int ((ts.length : Int) + 1))) (some (.tup [t.toD, .int (p + t.tx.length)])) (some (.str [44, 32])) (by rw [hE]; simp [ends]) (by rw [hp]; simp; omega)
      (fun t ht => h t (List.mem_cons_of_mem _ ht)) (by simp at hl ⊢; omega)
    refine ⟨v5, v6, v7, ?_⟩
    have pos : (0 : Int) < (ts.length : Int) + 1 := by omega
    simp only [List.length_cons] at ih
    simp at ap
    simp only [List.length_cons]
    rw [show dn (ts.length + 1 + 1) = .int ((ts.length : Int) + 1) :: dn (ts.length + 1) from rfl]
    simp [forGo, It.holds, gNm, r, ty, ap, st, ln, pos]
    simp [It.holds] at ih
    rw [ih]
theorem parts_at (k : Nat) (S : Store) {T pre post : List Nat} {deep p : Int} (ts : List Tm) (hn : ts.length = 2 ∨ ts.length = 3) (hE : T = pre ++ ends ts post) (hp : p = pre.length) (h : ∀ t ∈ ts, Reads k deep T t) :
    cN (k + 1) 11 [.str T, .int p, .int ts.length, .int deep] S = .ok (.tup [.tup (ts.map Tm.toD), .int ((T.length : Int) - post.length)]) S := by
  obtain ⟨v5, v6, v7, g⟩ := parts_loop k S (dn ts.length) (m := .int ts.length) ts [] pre p none none none hE hp h (by simp; omega)
  have it : iR3 (mCons (mOp dSub (mVar 2) (mC (.int 1))) (mCons (mUn dNeg (mC (.int 1))) (mCons (mUn dNeg (mC (.int 1))) mNil))) (cN k) [some (.str T), some (.int p), some (.int ts.length), some (.int deep), some (.ref S.length), none, none, none] (S ++ [.lst []]) = .ok (.vals (dn ts.length)) (S ++ [.lst []]) := by
    rcases hn with e | e <;> rw [e] <;> rfl
  have td : ∀ (x : Int) (o : Ob), closeds S.length (ts.map Tm.toD) = true → tidy S (.tup [.tup (ts.map Tm.toD), .int x]) (S ++ [o]) = .ok (.tup [.tup (ts.map Tm.toD), .int x]) S := fun x o hc => tidy_app (T := [o]) (by simp [closed, closeds, hc])
  have cl : ∀ t : Tm, closed S.length t.toD = true := by
    intro t
    induction t with
    | num i => rfl
    | down i => rfl
    | up c i => rfl
    | two w a b iha ihb => simp [Tm.toD, closed, closeds, iha, ihb]
    | three a b c iha ihb ihc => simp [Tm.toD, closed, closeds, iha, ihb, ihc]
  have cls : closeds S.length (ts.map Tm.toD) = true := by
    clear g hE h hn it td
    induction ts with
    | nil => rfl
    | cons t ts ih => simp [closeds, cl, ih]
  rw [call11]
  simp [m11, x_for, v_newLst, it, It.items]
  rw [g]
  simp [dTuple, lstOf, td _ _ cls]
end L92
end Q
namespace Q
open PySem L2
namespace L92
theorem w_head (w : W2) : ∃ c r, w.s = c :: r ∧ isFig c = false ∧ ([118, 117] : List Nat).contains c = false := by
  cases w <;> exact ⟨_, _, rfl, rfl, rfl⟩
theorem tx_pos : ∀ t : Tm, t.ok → 1 ≤ t.tx.length := by
  intro t h
  cases t with
  | num i => exact (num_figs h.1 h.2).2.1
  | down i => simp [Tm.tx]
  | up c i => simp [Tm.tx]
  | two w a b => simp [Tm.tx]; omega
  | three a b c => simp [Tm.tx]; omega
theorem reads_word (k : Nat) (S : Store) {T pre post w : List Nat} {p deep : Int} (ts : List Tm) (hw : (w = sChoose ∧ ts.length = 3) ∨ ((∃ u : W2, w = u.s) ∧ ts.length = 2)) (hT : T.length ≤ SL) (hE : T = pre ++ (w ++ 40 :: ends ts post)) (hp : p = pre.length) (hd : deep ≤ 20)
    (h : ∀ t ∈ ts, Reads (k + 1) (deep + 1) T t) : cN (k + 3) 12 [.str T, .int p, .int deep] S = .ok (.tup [.tup (.str w :: ts.map Tm.toD), .int ((T.length : Int) - post.length)]) S := by
  have hd' : ¬ 20 < deep := by omega
  obtain ⟨c, r, hc, f1, f2⟩ : ∃ c r, w = c :: r ∧ isFig c = false ∧ ([118, 117] : List Nat).contains c = false := by
    rcases hw with ⟨rfl, _⟩ | ⟨⟨u, rfl⟩, _⟩
    · exact ⟨_, _, rfl, rfl, rfl⟩
    · exact w_head u
  have hl : ¬ ((T.length : Int) ≤ p) := by rw [hE, hp]; simp; omega
  have x := v_ixS (S := S) (c := c) hT (at_one (p := p) (pre := pre) (x := r ++ 40 :: ends ts post) (by rw [hE, hc]; rfl) hp)
  have hww : w = sChoose ∨ ∃ u : W2, w = u.s := hw.imp (·.1) (·.1)
  have wd := word_gen (k + 1) S hww hE hp
  have hl6 : w.length ≤ 6 := by
    rcases hww with rfl | ⟨u, rfl⟩
    · decide
    · have := w_len u; omega
  have ln := v_lenS (S := S) (s := w) (Nat.le_trans hl6 (by decide))
  have pt := parts_at (k + 1) S (post := post) (deep := deep + 1) (p := p + w.length + 1) ts (by rcases hw with ⟨_, e⟩ | ⟨_, e⟩ <;> omega) (pre := pre ++ w ++ [40]) (by rw [hE]; simp) (by rw [hp]; simp; omega) h
  have ix : dIx (.glb 0) (.str w) S = .ok (.int ts.length) S := by
    rcases hw with ⟨rfl, e⟩ | ⟨⟨u, rfl⟩, e⟩
    · rw [e]; rfl
    · rw [e]; exact v_ixPw u
  have ad := v_addT (S := S) (a := [.str w]) (b := ts.map Tm.toD) (Nat.le_trans (show ([.str w] : List D).length + (ts.map Tm.toD).length ≤ 4 by simp; rcases hw with ⟨_, e⟩ | ⟨_, e⟩ <;> omega) (by decide))
  have i1 : dIn (.str [c]) (.str [118, 117]) S = .ok (.bl false) S := by rw [v_in1, f2]
  rw [call12]
  simp [m12, hd', v_lenS hT, hl, x, f1, i1, wd, ln, ix, pt, ad]
theorem reads_ok : ∀ (t : Tm) (k : Nat) (T : List Nat) (deep : Int), T.length ≤ SL → t.ok → 1 ≤ deep → deep + t.dep ≤ 21 → Reads (k + 3 + 2 * t.dep) deep T t := by
  intro t
  induction t with
  | num i =>
    intro k T deep hT hok h1 hd S pre post p hE hp hn
    simp only [Tm.dep] at hd
    have hd' : ¬ 20 < deep := by omega
    simp only [Tm.tx] at hE
    obtain ⟨f1, f2, f3⟩ := num_figs hok.1 hok.2
    obtain ⟨c, r, hc⟩ : ∃ c r, numT i = c :: r := by
      cases q : numT i with
      | nil => rw [q] at f2; simp at f2
      | cons c r => exact ⟨c, r, rfl⟩
    have fc : isFig c = true := by rw [hc] at f1; simp at f1; exact f1.1
    have hl : ¬ ((T.length : Int) ≤ p) := by rw [hE, hp]; simp; omega
    have x := v_ixS (S := S) (c := c) hT (at_one (p := p) (pre := pre) (x := r ++ post) (by rw [hE, hc]; rfl) hp)
    have n := number_at (k + 3) S hT hok.1 hok.2 hE hp hn
    show cN (k + 4 + 1) 12 _ S = _
    rw [call12]
    simp [m12, hd', v_lenS hT, hl, x, fc, n, Tm.toD, Tm.tx]
  | down i =>
    intro k T deep hT hok h1 hd S pre post p hE hp hn
    simp only [Tm.dep] at hd
    have hd' : ¬ 20 < deep := by omega
    simp only [Tm.tx, List.cons_append] at hE
    have hl : ¬ ((T.length : Int) ≤ p) := by rw [hE, hp]; simp; omega
    have x := v_ixS (S := S) hT (at_one (p := p) hE hp)
    have n := input_down (k + 2) S hT hok.1 (by have := hok.2; omega) hE hp hn
    have f1 : isFig 118 = false := rfl
    have i1 : dIn (.str [118]) (.str [118, 117]) S = .ok (.bl true) S := by rw [v_in1]; rfl
    show cN (k + 4 + 1) 12 _ S = _
    rw [call12]
    simp [m12, hd', v_lenS hT, hl, x, f1, i1, n, Tm.toD, Tm.tx]
    omega
  | up c i =>
    intro k T deep hT hok h1 hd S pre post p hE hp hn
    simp only [Tm.dep] at hd
    have hd' : ¬ 20 < deep := by omega
    simp only [Tm.tx, List.cons_append, List.append_assoc] at hE
    have hl : ¬ ((T.length : Int) ≤ p) := by rw [hE, hp]; simp; omega
    have x := v_ixS (S := S) hT (at_one (p := p) hE hp)
    have n := input_up (k + 2) S hT hok.1.1 (by have := hok.1.2; omega) hok.2.1 (by have := hok.2.2; omega) hE hp hn
    have f1 : isFig 117 = false := rfl
    have i1 : dIn (.str [117]) (.str [118, 117]) S = .ok (.bl true) S := by rw [v_in1]; rfl
    show cN (k + 4 + 1) 12 _ S = _
    rw [call12]
    simp [m12, hd', v_lenS hT, hl, x, f1, i1, n, Tm.toD, Tm.tx]
    omega
  | two w a b iha ihb =>
    intro k T deep hT hok h1 hd S pre post p hE hp hn
    simp only [Tm.dep] at hd
    have hE2 : T = pre ++ (w.s ++ 40 :: ends [a, b] post) := by rw [hE]; simp [Tm.tx, ends]
    have g := reads_word (k + 2 + 2 * max a.dep b.dep) S [a, b] (.inr ⟨⟨w, rfl⟩, rfl⟩) hT hE2 hp (deep := deep) (by omega) (fun x hx => by
      simp only [List.mem_cons, List.not_mem_nil, or_false] at hx
      rcases hx with rfl | rfl
      · have := iha (k + 2 * max x.dep b.dep - 2 * x.dep) T (deep + 1) hT hok.1 (by omega) (by omega)
        rwa [show k + 2 * max x.dep b.dep - 2 * x.dep + 3 + 2 * x.dep = k + 2 + 2 * max x.dep b.dep + 1 by omega] at this
      · have := ihb (k + 2 * max a.dep x.dep - 2 * x.dep) T (deep + 1) hT hok.2 (by omega) (by omega)
        rwa [show k + 2 * max a.dep x.dep - 2 * x.dep + 3 + 2 * x.dep = k + 2 + 2 * max a.dep x.dep + 1 by omega] at this)
    rw [show k + 3 + 2 * (Tm.two w a b).dep = k + 2 + 2 * max a.dep b.dep + 3 by simp only [Tm.dep]; omega, g]
    have e : (T.length : Int) - post.length = p + (Tm.two w a b).tx.length := by rw [hE, hp]; simp; omega
    rw [e]; rfl
  | three a b c iha ihb ihc =>
    intro k T deep hT hok h1 hd S pre post p hE hp hn
    simp only [Tm.dep] at hd
    have hE2 : T = pre ++ (sChoose ++ 40 :: ends [a, b, c] post) := by rw [hE]; simp [Tm.tx, ends]
    have g := reads_word (k + 2 + 2 * max a.dep (max b.dep c.dep)) S [a, b, c] (.inl ⟨rfl, rfl⟩) hT hE2 hp (deep := deep) (by omega) (fun x hx => by
      simp only [List.mem_cons, List.not_mem_nil, or_false] at hx
      rcases hx with rfl | rfl | rfl
      · have := iha (k + 2 * max x.dep (max b.dep c.dep) - 2 * x.dep) T (deep + 1) hT hok.1 (by omega) (by omega)
        rwa [show k + 2 * max x.dep (max b.dep c.dep) - 2 * x.dep + 3 + 2 * x.dep = k + 2 + 2 * max x.dep (max b.dep c.dep) + 1 by omega] at this
      · have := ihb (k + 2 * max a.dep (max x.dep c.dep) - 2 * x.dep) T (deep + 1) hT hok.2.1 (by omega) (by omega)
        rwa [show k + 2 * max a.dep (max x.dep c.dep) - 2 * x.dep + 3 + 2 * x.dep = k + 2 + 2 * max a.dep (max x.dep c.dep) + 1 by omega] at this
      · have := ihc (k + 2 * max a.dep (max b.dep x.dep) - 2 * x.dep) T (deep + 1) hT hok.2.2 (by omega) (by omega)
        rwa [show k + 2 * max a.dep (max b.dep x.dep) - 2 * x.dep + 3 + 2 * x.dep = k + 2 + 2 * max a.dep (max b.dep x.dep) + 1 by omega] at this)
    rw [show k + 3 + 2 * (Tm.three a b c).dep = k + 2 + 2 * max a.dep (max b.dep c.dep) + 3 by simp only [Tm.dep]; omega, g]
    have e : (T.length : Int) - post.length = p + (Tm.three a b c).tx.length := by rw [hE, hp]; simp; omega
    rw [e]; rfl
theorem read_ok (k : Nat) (S : Store) (t : Tm) (h : t.ok) (hd : t.dep ≤ 20) (hs : t.size ≤ 200) : cN (k + 52) 16 [.str t.tx] S = .ok t.toD S := by
  have hT : t.tx.length ≤ SL := Nat.le_trans (Nat.le_trans (tx_len t h) (Nat.mul_le_mul_left 20 hs)) (by decide)
  have r := reads_ok t (k + 47 - 2 * t.dep) t.tx 1 hT h (by omega) (by omega) S [] [] 0 (by simp) rfl (fun c q => by simp at q)
  rw [show k + 47 - 2 * t.dep + 3 + 2 * t.dep = k + 50 by omega] at r
  have f := form_ok S t (k + 20) h hd hs
  have x := text7 S t (k + 30) h hd hs
  have n : isNon t.toD = false := by cases t <;> rfl
  have e13 : cN (k + 51) 13 [.str t.tx] S = .ok t.toD S := by
    rw [call13]
    simp [m13, r, v_lenS hT, f, x]
  have e14 : cN (k + 51) 14 [.str t.tx, t.toD] S = .ok t.toD S := by
    rw [call14]
    simp [m14, n]
  rw [call16]
  simp [m16, e13, e14]
end L92
end Q
namespace Q
open PySem L2
/-! ### bags -/
def Bg (S : Store) (b m : Nat) : Prop := ∃ b0 b1 b2 : Int, S[b]? = some (.lst [.int b0, .int b1, .int b2]) ∧ 0 ≤ b1 ∧ b1 ≤ 10 ^ 38 ∧ 0 ≤ b2 ∧ b2 ≤ m
/-- from one store to another: the bag b alone changed, new things behind -/
structure Rl (b m : Nat) (S S' : Store) : Prop where
  len : S.length ≤ S'.length
  old : ∀ i, i < S.length → i ≠ b → S'[i]? = S[i]?
  bg : Bg S' b m
  lt : b < S.length
theorem Bg.lt {S : Store} {b m : Nat} (h : Bg S b m) : b < S.length := by
  obtain ⟨_, _, _, h, _⟩ := h
  exact (List.getElem?_eq_some_iff.mp h).1
theorem Bg.mono {S : Store} {b m m' : Nat} (h : Bg S b m) (hm : m ≤ m') : Bg S b m' := by
  obtain ⟨b0, b1, b2, h1, h2, h3, h4, h5⟩ := h
  exact ⟨b0, b1, b2, h1, h2, h3, h4, by omega⟩
theorem Rl.refl {S : Store} {b m : Nat} (h : Bg S b m) : Rl b m S S := ⟨Nat.le_refl _, fun _ _ _ => rfl, h, h.lt⟩
theorem Rl.mono {S S' : Store} {b m m' : Nat} (h : Rl b m S S') (hm : m ≤ m') : Rl b m' S S' := ⟨h.len, h.old, h.bg.mono hm, h.lt⟩
theorem Rl.trans {S S1 S2 : Store} {b m m' : Nat} (h : Rl b m S S1) (h2 : Rl b m' S1 S2) : Rl b m' S S2 :=
  ⟨Nat.le_trans h.len h2.len, fun i hi hb => (h2.old i (Nat.lt_of_lt_of_le hi h.len) hb).trans (h.old i hi hb), h2.bg, h.lt⟩
theorem Bg.snoc {S : Store} {b m : Nat} (h : Bg S b m) (o : Ob) : Bg (S ++ [o]) b m := by
  obtain ⟨b0, b1, b2, h1, h2⟩ := h
  exact ⟨b0, b1, b2, by rw [List.getElem?_append_left (List.getElem?_eq_some_iff.mp h1).1]; exact h1, h2⟩
theorem Rl.snoc {S S' : Store} {b m : Nat} (h : Rl b m S S') (o : Ob) : Rl b m S (S' ++ [o]) :=
  ⟨by simp; have := h.len; omega, fun i hi hb => by rw [List.getElem?_append_left (Nat.lt_of_lt_of_le hi h.len)]; exact h.old i hi hb, h.bg.snoc o, h.lt⟩
theorem oldOk_rl {b n : Nat} (o : Ob) (ho : closedOb n o = true) : ∀ (S S' : Store) (off : Nat), S.length ≤ S'.length → (∀ i, i < S.length → off + i ≠ b → S'[i]? = S[i]?) → (∀ i, off + i = b → i < S.length → S'[i]? = some o) → oldOk n S S' = true
  | [], _, _, _, _, _ => rfl
  | a :: S, [], _, hl, _, _ => by simp at hl
  | a :: S, a' :: S', off, hl, h1, h2 => by
    show ((decide (a = a') || closedOb n a') && oldOk n S S') = true
    rw [oldOk_rl (b := b) o ho S S' (off + 1) (by simpa using hl) (fun i hi hb => by
      have := h1 (i + 1) (by simpa using hi) (by omega)
      simpa using this) (fun i hb hi => by
      have := h2 (i + 1) (by omega) (by simpa using hi)
      simpa using this)]
    by_cases hb : off = b
    · have := h2 0 (by omega) (by simp)
      simp at this
      subst this
      rw [ho]; simp
    · have := h1 0 (by simp) (by omega)
      simp at this
      simp [this]
theorem tidy_rl {S S' : Store} {b m : Nat} {d : D} (h : Rl b m S S') (hd : closed S.length d = true) : ∃ S2, tidy S d S' = .ok d S2 ∧ Rl b m S S2 ∧ S2.length = S.length := by
  obtain ⟨b0, b1, b2, h1, h2⟩ := h.bg
  have ok : oldOk S.length S S' = true := oldOk_rl (b := b) (.lst [.int b0, .int b1, .int b2]) rfl S S' 0 h.len (fun i hi hb => h.old i hi (by omega)) (fun i hb hi => by
    have : i = b := by omega
    subst this; exact h1)
  refine ⟨S'.take S.length, by unfold tidy; rw [if_pos ok, if_pos hd], ⟨by simp [h.len], fun i hi hb => ?_, ⟨b0, b1, b2, ?_, h2⟩, h.lt⟩, by simp [h.len]⟩
  · rw [List.getElem?_take, if_pos hi]; exact h.old i hi hb
  · rw [List.getElem?_take, if_pos h.lt]; exact h1
section
variable {S : Store} {n : Nat} {x y z v : D} {ds : List D} {i j : Int}
theorem l_ix {c : Nat} {d : D} (h : S[n]? = some (.lst ds)) (hc : ds[c]? = some d) : dIx (.ref n) (.int (c : Int)) S = .ok d S := by
  have e : lstOf S n = some ds := by unfold lstOf; rw [h]
  have lt := (List.getElem?_eq_some_iff.mp hc).1
  have a : atI ds (c : Int) = some d := by
    unfold atI L2.ixN
    rw [if_pos (by omega), if_pos (by omega)]
    simpa using hc
  show (match lstOf S n with | some ds => (match atI ds c with | some d => Res.ok d S | none => Res.err) | none => Res.err) = _
  rw [e]
  simp only [a]
theorem l_ix0 (h : S[n]? = some (.lst (x :: ds))) : dIx (.ref n) (.int 0) S = .ok x S := l_ix (c := 0) h rfl
theorem l_ix1 (h : S[n]? = some (.lst (x :: y :: ds))) : dIx (.ref n) (.int 1) S = .ok y S := l_ix (c := 1) h rfl
theorem l_ix2 (h : S[n]? = some (.lst (x :: y :: z :: ds))) : dIx (.ref n) (.int 2) S = .ok z S := l_ix (c := 2) h rfl
theorem l_put0 (h : S[n]? = some (.lst [x, y, z])) : dPut (.ref n) (.int 0) v S = .ok () (S.set n (.lst [v, y, z])) := by
  show (match S[n]? with | some (.lst ds) => (match L2.ixN ds.length 0 with | some j => Res.ok () (S.set n (.lst (ds.set j v))) | none => Res.err) | _ => Res.err) = _
  rw [h]; rfl
theorem l_put2 (h : S[n]? = some (.lst [x, y, z])) : dPut (.ref n) (.int 2) v S = .ok () (S.set n (.lst [x, y, v])) := by
  show (match S[n]? with | some (.lst ds) => (match L2.ixN ds.length 2 with | some j => Res.ok () (S.set n (.lst (ds.set j v))) | none => Res.err) | _ => Res.err) = _
  rw [h]; rfl
theorem l_len (h : S[n]? = some (.lst ds)) : dLen [.ref n] S = .ok (.int ds.length) S := by
  have e : lstOf S n = some ds := by unfold lstOf; rw [h]
  show (match lstOf S n with | some ds => Res.ok (D.int ds.length) S | none => Res.err) = _
  rw [e]
theorem l_tup (h : S[n]? = some (.lst ds)) : dTuple [.ref n] S = .ok (.tup ds) S := by
  have e : lstOf S n = some ds := by unfold lstOf; rw [h]
  show (match lstOf S n with | some ds => Res.ok (D.tup ds) S | none => Res.err) = _
  rw [e]
def CAP : Nat := 2 ^ 200
theorem mul_big (h : i.natAbs ≤ CAP * CAP) (h' : j.natAbs ≤ CAP * CAP) : dMul (.int i) (.int j) S = .ok (.int (i * j)) S := by
  have c : CAP * CAP < 2 ^ 2000 := by decide +kernel
  show (if mulOk i j then _ else _) = _
  rw [if_pos]
  unfold mulOk
  rw [decide_eq_true (show i.natAbs < 2 ^ 2000 by omega), decide_eq_true (show j.natAbs < 2 ^ 2000 by omega)]
  simp
theorem mul_small (h : i.natAbs < 100000000) : dMul (.int i) (.int j) S = .ok (.int (i * j)) S := by
  show (if mulOk i j then _ else _) = _
  rw [if_pos]
  unfold mulOk
  rw [decide_eq_true (show i.natAbs < 2 ^ 64 by omega)]
  simp
theorem mod_pos (h : 0 < j) : dMod (.int i) (.int j) S = .ok (.int (i % j)) S := by
  show (if 0 < j then _ else _) = _
  rw [if_pos h]
theorem div_pos (h : 0 < j) (h' : j ≤ 10000000000) : dDiv (.int i) (.int j) S = .ok (.int (i / j)) S := by
  have c : (10000000000 : Nat) < 2 ^ 2000 := by decide +kernel
  show (if 0 < j ∧ j.natAbs < 2 ^ 2000 then _ else _) = _
  rw [if_pos ⟨h, by omega⟩]
theorem pow10 (c : Nat) (h : c ≤ 100) : dPow (.int 10) (.int (c : Int)) S = .ok (.int (10 ^ c)) S := by
  show (if 0 ≤ (c : Int) ∧ (c : Int) ≤ 1000000 ∧ (10 : Int).natAbs < 2 ^ 64 then _ else _) = _
  rw [if_pos ⟨by omega, by omega, by decide⟩]
  simp
end
namespace L92
theorem draw (k : Nat) (S : Store) (b m : Nat) (many : Int) (hb : Bg S b m) (hm : m ≤ 2 ^ 100) (h0 : 0 < many) (h1 : many ≤ 1000000) :
    ∃ v S', cN (k + 1) 18 [.ref b, .int many] S = .ok (.int v) S' ∧ Rl b (m + 1) S S' ∧ S'.length = S.length ∧ 0 ≤ v ∧ v < many := by
  obtain ⟨b0, b1, b2, hs, c0, c1, c2, c3⟩ := hb
  have hlt := (List.getElem?_eq_some_iff.mp hs).1
  rw [call18]
  by_cases hp : 0 < b0
  · have hs2 : (S.set b (.lst [.int (b0 / many), .int b1, .int b2]))[b]? = some (.lst [.int (b0 / many), .int b1, .int b2]) := List.getElem?_set_self hlt
    have rl : Rl b (m + 1) S (S.set b (.lst [.int (b0 / many), .int b1, .int b2])) := ⟨by simp, fun i hi hne => List.getElem?_set_ne (Ne.symm hne), ⟨_, _, _, hs2, c0, c1, c2, by omega⟩, hlt⟩
    obtain ⟨S2, t1, t2, t3⟩ := tidy_rl (d := .int (b0 % many)) rl rfl
    refine ⟨b0 % many, S2, ?_, t2, t3, Int.emod_nonneg _ (by omega), Int.emod_lt_of_pos _ h0⟩
    simp [m18, l_ix0 hs, hp, mod_pos h0, div_pos h0 (show many ≤ 10000000000 by omega), l_put0 hs, t1]
  · let s := S.set b (.lst [.int b0, .int b1, .int (b2 + 1)])
    have hs2 : s[b]? = some (.lst [.int b0, .int b1, .int (b2 + 1)]) := List.getElem?_set_self hlt
    have rl : Rl b (m + 1) S s := ⟨by simp [s], fun i hi hne => List.getElem?_set_ne (Ne.symm hne), ⟨_, _, _, hs2, c0, c1, by omega, by omega⟩, hlt⟩
    have e10 : dPow (.int 10) (.int 10) s = .ok (.int (10 ^ 10)) s := pow10 10 (by decide)
    have e40 : dPow (.int 10) (.int 40) s = .ok (.int (10 ^ 40)) s := pow10 40 (by decide)
    have e38 : dPow (.int 10) (.int 38) s = .ok (.int (10 ^ 38)) s := pow10 38 (by decide)
    have hC : (2 : Nat) ^ 100 + 1 ≤ 2 ^ 101 := by decide
    -- the numbers on the way
    let x : Int := b1 + 9699691 * (b2 + 1)
    have bx : x.natAbs ≤ CAP := by
      have : (10 : Nat) ^ 38 + 9699691 * (2 ^ 100 + 1) ≤ CAP := by decide +kernel
      have hb2 : b2 ≤ ((2 ^ 100 : Nat) : Int) := by omega
      have hb1 : b1 ≤ ((10 ^ 38 : Nat) : Int) := by simpa using c1
      generalize hA : (10 : Nat) ^ 38 = A at *
      generalize hB : (2 : Nat) ^ 100 = B at *
      show (b1 + 9699691 * (b2 + 1)).natAbs ≤ CAP
      omega
    have bxx : (x * x).natAbs ≤ CAP * CAP := by rw [Int.natAbs_mul]; exact Nat.mul_le_mul bx bx
    have cap1 : CAP ≤ CAP * CAP := Nat.le_mul_of_pos_left CAP (by decide +kernel)
    have bb : (b2 + 1).natAbs ≤ CAP := by
      have : (2 : Nat) ^ 100 + 1 ≤ CAP := by decide +kernel
      generalize hB : (2 : Nat) ^ 100 = B at *
      omega
    have bc : (40960001 * (b2 + 1)).natAbs ≤ CAP * CAP := by
      rw [Int.natAbs_mul]
      exact Nat.mul_le_mul (show (40960001 : Int).natAbs ≤ CAP by decide +kernel) bb
    let y : Int := (x * x * x + 40960001 * (b2 + 1) * (b2 + 1)) % (10 ^ 40 + 121)
    have by_ : y.natAbs ≤ CAP := by
      have h1 : 0 ≤ y := Int.emod_nonneg _ (by decide)
      have h2 : y < 10 ^ 40 + 121 := Int.emod_lt_of_pos _ (by decide)
      have : (10 : Nat) ^ 40 + 121 ≤ CAP := by decide +kernel
      have h3 : y < ((10 ^ 40 + 121 : Nat) : Int) := by simpa using h2
      generalize hA : (10 : Nat) ^ 40 + 121 = A at *
      omega
    let u : Int := (y * y + 611953 * y) % (10 ^ 38 + 133)
    obtain ⟨S2, t1, t2, t3⟩ := tidy_rl (d := .int (u / 10 ^ 10 % many)) rl rfl
    refine ⟨u / 10 ^ 10 % many, S2, ?_, t2, t3, Int.emod_nonneg _ (by omega), Int.emod_lt_of_pos _ h0⟩
    have f1 : dMul (.int 9699691) (.int (b2 + 1)) s = .ok (.int (9699691 * (b2 + 1))) s := mul_small (by decide)
    have f2 : dMul (.int x) (.int x) s = .ok (.int (x * x)) s := mul_big (Nat.le_trans bx cap1) (Nat.le_trans bx cap1)
    have f3 : dMul (.int (x * x)) (.int x) s = .ok (.int (x * x * x)) s := mul_big bxx (Nat.le_trans bx cap1)
    have f4 : dMul (.int 40960001) (.int (b2 + 1)) s = .ok (.int (40960001 * (b2 + 1))) s := mul_small (by decide)
    have f5 : dMul (.int (40960001 * (b2 + 1))) (.int (b2 + 1)) s = .ok (.int (40960001 * (b2 + 1) * (b2 + 1))) s := mul_big bc (Nat.le_trans bb cap1)
    have f6 : dMod (.int (x * x * x + 40960001 * (b2 + 1) * (b2 + 1))) (.int (10 ^ 40 + 121)) s = .ok (.int y) s := mod_pos (by decide)
    have f7 : dMul (.int y) (.int y) s = .ok (.int (y * y)) s := mul_big (Nat.le_trans by_ cap1) (Nat.le_trans by_ cap1)
    have f8 : dMul (.int 611953) (.int y) s = .ok (.int (611953 * y)) s := mul_small (by decide)
    have f9 : dMod (.int (y * y + 611953 * y)) (.int (10 ^ 38 + 133)) s = .ok (.int u) s := mod_pos (by decide)
    have f10 : dDiv (.int u) (.int (10 ^ 10)) s = .ok (.int (u / 10 ^ 10)) s := div_pos (by decide) (by decide)
    have f11 : dMod (.int (u / 10 ^ 10)) (.int many) s = .ok (.int (u / 10 ^ 10 % many)) s := mod_pos h0
    have p2 := l_put2 (v := .int (b2 + 1)) hs
    have fs : S.set b (.lst [.int b0, .int b1, .int (b2 + 1)]) = s := rfl
    rw [fs] at p2
    have fx : b1 + 9699691 * (b2 + 1) = x := rfl
    clear_value s x y u
    simp only [m18, x_run, x_seq, x_sIf, x_tVal, x_op, x_var, x_C, x_put, x_asg, x_app, x_cons, x_nil, x_ret, x_skip, List.map_cons, List.map_nil, List.length_cons, List.length_nil, List.getElem?_cons_zero, bind_ok, thenS_ok, seq_nxt, l_ix0 hs, v_cmp, hp, decide_false, Bool.false_eq_true, if_false, if_true,
      List.replicate, List.cons_append, List.nil_append, List.getElem?_cons_succ, l_ix2 hs, v_add, p2, l_ix1 hs2, l_ix2 hs2, List.set_cons_zero, List.set_cons_succ, f1, fx, f2, f3, f4, f5, v_int, e40, f6, f7, f8, e38, f9, e10, f10, f11, fin_ret, t1]
end L92
end Q
namespace Q
open PySem L2
theorem Tm.closed (n : Nat) : ∀ t : Tm, Q.closed n t.toD = true := by
  intro t
  induction t with
  | num i => rfl
  | down i => rfl
  | up c i => rfl
  | two w a b iha ihb => simp [Tm.toD, Q.closed, closeds, iha, ihb]
  | three a b c iha ihb ihc => simp [Tm.toD, Q.closed, closeds, iha, ihb, ihc]
theorem Rl.keep {S S' : Store} {b m n : Nat} {o : Ob} (h : Rl b m S S') (hn : S[n]? = some o) (hne : n ≠ b) : S'[n]? = some o := (h.old n (List.getElem?_eq_some_iff.mp hn).1 hne).trans hn
namespace L92
theorem choice (k : Nat) (S : Store) (b m n : Nat) (ds : List D) (hb : Bg S b m) (hm : m ≤ 2 ^ 100) (hn : S[n]? = some (.lst ds)) (hne : n ≠ b) (h1 : 1 ≤ ds.length) (h2 : ds.length ≤ 100) (hc : ∀ d ∈ ds, closed S.length d = true) :
    ∃ d S', cN (k + 2) 19 [.ref b, .ref n] S = .ok d S' ∧ Rl b (m + 1) S S' ∧ S'.length = S.length ∧ d ∈ ds := by
  obtain ⟨v, S1, e1, r1, l1, v0, v1⟩ := draw k S b m ds.length hb hm (by omega) (by omega)
  obtain ⟨c, rfl⟩ := Int.eq_ofNat_of_zero_le v0
  have hc1 : c < ds.length := by omega
  have ix := l_ix (c := c) (d := ds[c]) (r1.keep hn hne) (by simp [hc1])
  obtain ⟨S2, t1, t2, t3⟩ := tidy_rl r1 (hc _ (List.getElem_mem hc1))
  refine ⟨ds[c], S2, ?_, t2, t3, List.getElem_mem hc1⟩
  rw [call19]
  simp [m19, l_len hn, e1]
  rw [show ((c : Nat) : Int) = (c : Int) from rfl] at ix
  simp [ix, t1]
theorem leaf (k : Nat) (S : Store) (b m : Nat) (hb : Bg S b m) (hm : m + 3 ≤ 2 ^ 100) :
    ∃ (t : Tm) (S' : Store), cN (k + 2) 21 [.ref b] S = .ok t.toD S' ∧ Rl b (m + 3) S S' ∧ S'.length = S.length ∧ t.ok ∧ t.size = 1 ∧ t.dep = 1 := by
  obtain ⟨v, S1, e1, r1, l1, v0, v1⟩ := draw k S b m 4 hb (by omega) (by decide) (by decide)
  by_cases h2 : v < 2
  · by_cases h0 : v = 0
    · obtain ⟨i, S2, e2, r2, l2, i0, i1⟩ := draw k S1 b (m + 1) 1000 r1.bg (by omega) (by decide) (by decide)
      obtain ⟨S3, t1, t2, t3⟩ := tidy_rl (d := (Tm.num i).toD) ((r1.trans r2).mono (show m + 1 + 1 ≤ m + 3 by omega)) rfl
      refine ⟨.num i, S3, ?_, t2, t3, ⟨i0, by omega⟩, rfl, rfl⟩
      rw [call21]
      simp only [Tm.toD] at t1
      simp [m21, e1, h2, h0, e2, t1, Tm.toD]
    · obtain ⟨i, S2, e2, r2, l2, i0, i1⟩ := draw k S1 b (m + 1) 12 r1.bg (by omega) (by decide) (by decide)
      obtain ⟨S3, t1, t2, t3⟩ := tidy_rl (d := (Tm.num i).toD) ((r1.trans r2).mono (show m + 1 + 1 ≤ m + 3 by omega)) rfl
      refine ⟨.num i, S3, ?_, t2, t3, ⟨i0, by omega⟩, rfl, rfl⟩
      rw [call21]
      simp only [Tm.toD] at t1
      simp [m21, e1, h2, h0, e2, t1, Tm.toD]
  · by_cases h3 : v = 2
    · obtain ⟨i, S2, e2, r2, l2, i0, i1⟩ := draw k S1 b (m + 1) 12 r1.bg (by omega) (by decide) (by decide)
      obtain ⟨S3, t1, t2, t3⟩ := tidy_rl (d := (Tm.down i).toD) ((r1.trans r2).mono (show m + 1 + 1 ≤ m + 3 by omega)) rfl
      refine ⟨.down i, S3, ?_, t2, t3, ⟨i0, by omega⟩, rfl, rfl⟩
      rw [call21]
      subst h3
      simp only [Tm.toD, sDown] at t1
      simp [m21, e1, e2, t1, Tm.toD, sDown]
    · obtain ⟨c, S2, e2, r2, l2, c0, c1⟩ := draw k S1 b (m + 1) 3 r1.bg (by omega) (by decide) (by decide)
      obtain ⟨i, S3, e3, r3, l3, i0, i1⟩ := draw k S2 b (m + 2) 12 r2.bg (by omega) (by decide) (by decide)
      obtain ⟨S4, t1, t2, t3⟩ := tidy_rl (d := (Tm.up c i).toD) (r1.trans (r2.trans r3)) rfl
      refine ⟨.up c i, S4, ?_, t2, t3, ⟨⟨c0, by omega⟩, ⟨i0, by omega⟩⟩, rfl, rfl⟩
      rw [call21]
      simp only [Tm.toD, sUp] at t1
      simp [m21, e1, h2, h3, e2, e3, t1, Tm.toD, sUp]
/-- three times the same, what comes laid on a list -/
theorem loop3 (E : SE) (cf : CF) (L : List D) (b n c : Nat) (P : Tm → Prop) (r0 r1 r2 r3 r4 : Option D) (hne : n ≠ b)
    (hE : ∀ (u6 : Option D) (S' : Store) (m' : Nat), Bg S' b m' → m' + c ≤ 2 ^ 100 → ∃ (t : Tm) (S'' : Store), E cf [r0, r1, r2, r3, r4, some (.ref n), u6] S' = .ok t.toD S'' ∧ Rl b (m' + c) S' S'' ∧ S''.length = S'.length ∧ P t) :
    ∀ (is : List D) (acc : List Tm) (S : Store) (m : Nat) (u6 : Option D), S[n]? = some (.lst (acc.map Tm.toD)) → Bg S b m → m + is.length * c ≤ 2 ^ 100 → acc.length + is.length ≤ 100 → ∃ (ts : List Tm) (S' : Store) (u6' : Option D),
      forGo (It.vals L).holds (gNm 6) (sExpr (mMeth "list" dAppend (mVar 5) (mCons E mNil)) cf) is [r0, r1, r2, r3, r4, some (.ref n), u6] S = .nxt [r0, r1, r2, r3, r4, some (.ref n), u6'] S' ∧ S'[n]? = some (.lst ((acc ++ ts).map Tm.toD)) ∧
      S'.length = S.length ∧ (∀ i, i < S.length → i ≠ b → i ≠ n → S'[i]? = S[i]?) ∧ Bg S' b (m + is.length * c) ∧ ts.length = is.length ∧ ∀ t ∈ ts, P t
  | [], acc, S, m, u6, hn, hb, _, _ => ⟨[], S, u6, by simp [forGo, It.holds], by simpa using hn, rfl, fun _ _ _ _ => rfl, by simpa using hb, rfl, by simp⟩
  | i :: is, acc, S, m, u6, hn, hb, hm, hl => by
    simp only [List.length_cons, Nat.succ_mul] at hm hl
    obtain ⟨t, S1, e1, q1, l1, p1⟩ := hE (some i) S m hb (by omega)
    have hn1 := q1.keep hn hne
    have hs : (acc.map Tm.toD).length < SL := Nat.lt_of_lt_of_le (show (acc.map Tm.toD).length < 101 by simp; omega) (by decide)
    have ap := v_append (d := t.toD) hn1 hs
    have ty : typeD S (.ref n) = some "list" := by simp [typeD, hn]
    have lt := (List.getElem?_eq_some_iff.mp hn1).1
    obtain ⟨b0, b1, b2, g1, g2⟩ := q1.bg
    have hb2 : Bg (S1.set n (.lst (acc.map Tm.toD ++ [t.toD]))) b (m + c) := ⟨b0, b1, b2, by rw [List.getElem?_set_ne hne]; exact g1, g2⟩
    obtain ⟨ts, S2, u6', ih1, ih2, ih3, ih4, ih5, ih6, ih7⟩ := loop3 E cf L b n c P r0 r1 r2 r3 r4 hne hE is (acc ++ [t]) (S1.set n (.lst (acc.map Tm.toD ++ [t.toD]))) (m + c) (some i) (by rw [List.getElem?_set_self lt]; simp) hb2 (by omega) (by simp; omega)
    refine ⟨t :: ts, S2, u6', ?_, by simpa using ih2, by rw [ih3]; simp [l1], fun j hj hjb hjn => ?_, by simp only [List.length_cons, Nat.succ_mul]; exact ih5.mono (by omega), by simp [ih6], fun x hx => ?_⟩
    · simp only [forGo, It.holds, gNm]
      simp [ty, e1, ap]
      rw [ih1]
    · rw [ih4 j (by simp [l1]; omega) hjb hjn, List.getElem?_set_ne (Ne.symm hjn)]
      exact q1.old j hj hjb
    · rcases List.mem_cons.mp hx with rfl | hx
      · exact p1
      · exact ih7 x hx
end L92
end Q
namespace Q
open PySem L2
namespace L92
theorem it3 {cf : CF} {ρ : Env} {S : Store} : iR1 (mCons (mC (.int 3)) mNil) cf ρ S = .ok (.vals [.int 0, .int 1, .int 2]) S := rfl
abbrev WORDS : List D := [.str [112, 108, 117, 115], .str [116, 105, 109, 101, 115], .str [108, 101, 115, 115], .str [108, 101, 97, 115, 116], .str [109, 111, 115, 116], .str [99, 104, 111, 111, 115, 101]]
theorem word_cases {d : D} (h : d ∈ WORDS) : (∃ u : W2, d = .str u.s) ∨ d = .str sChoose := by
  simp only [WORDS, List.mem_cons, List.not_mem_nil, or_false] at h
  rcases h with rfl | rfl | rfl | rfl | rfl | rfl
  · exact .inl ⟨.plus, rfl⟩
  · exact .inl ⟨.times, rfl⟩
  · exact .inl ⟨.less, rfl⟩
  · exact .inl ⟨.least, rfl⟩
  · exact .inl ⟨.most, rfl⟩
  · exact .inr rfl
theorem nl {S : Store} {ds : List D} (h : decide (ds.length ≤ 100) = true) : newLst ds S = .ok (.ref S.length) (S ++ [.lst ds]) := v_newLst (Nat.le_trans (of_decide_eq_true h) (by decide))
theorem w_ne (u : W2) : (u.s = [99, 104, 111, 111, 115, 101]) = False := by cases u <;> simp [W2.s]
theorem adT {S : Store} {a b : List D} (h : decide (a.length + b.length ≤ 100) = true) : dAdd (.tup a) (.tup b) S = .ok (.tup (a ++ b)) S := v_addT (Nat.le_trans (of_decide_eq_true h) (by decide))
theorem len3 {ts : List Tm} (h : ts.length = 3) : ∃ a b c, ts = [a, b, c] := by
  match ts, h with
  | [a, b, c], _ => exact ⟨a, b, c, rfl⟩
abbrev e22 : SE := (mIf (tVal (mOp dGt (mVar 1) (mC (.int 3)))) (mCall 22 (mCons (mVar 0) (mCons (mApp dMax2 (mCons (mC (.int 1)) (mCons (mOp dDiv (mOp dSub (mVar 1) (mC (.int 1))) (mC (.int 3))) mNil))) (mCons (mOp dSub (mVar 2) (mC (.int 1))) mNil)))) (mCall 21 (mCons (mVar 0) mNil)))
theorem term_ok : ∀ (d k : Nat) (S : Store) (b m : Nat) (left : Int), 1 ≤ d → 1 ≤ left → left ≤ 60 → Bg S b m → m + 4 ^ (d + 1) ≤ 2 ^ 100 →
    ∃ (t : Tm) (S' : Store), cN (k + 3 + d) 22 [.ref b, .int left, .int d] S = .ok t.toD S' ∧ Rl b (m + 4 ^ (d + 1)) S S' ∧ S'.length = S.length ∧ t.ok ∧ (t.size : Int) ≤ left ∧ t.dep ≤ d
  | 0, _, _, _, _, _, h, _, _, _, _ => absurd h (by decide)
  | d + 1, k, S, b, m, left, _, hl1, hl2, hb, hm => by
    have p4 : 4 ^ (d + 1 + 1) = 4 * 4 ^ (d + 1) := by rw [Nat.pow_succ (n := 4) (m := d + 1), Nat.mul_comm]
    have p1 : 4 ≤ 4 ^ (d + 1) := Nat.le_trans (by decide) (Nat.pow_le_pow_right (by decide) (show 1 ≤ d + 1 by omega))
    rw [p4] at hm ⊢
    rw [show k + 3 + (d + 1) = (k + 1 + d + 2) + 1 by omega, call22]
    -- the leaf's way out
    by_cases h3 : left < 3
    · obtain ⟨t, S1, e1, r1, l1, o1, z1, d1⟩ := leaf (k + 1 + d) S b m hb (by omega)
      obtain ⟨S2, t1, t2, t3⟩ := tidy_rl (r1.mono (show m + 3 ≤ m + 4 * 4 ^ (d + 1) by omega)) (t.closed _)
      refine ⟨t, S2, ?_, t2, t3, o1, by omega, by omega⟩
      simp [m22, h3, e1, t1]
    by_cases hd0 : d = 0
    · subst hd0
      obtain ⟨t, S1, e1, r1, l1, o1, z1, d1⟩ := leaf (k + 1 + 0) S b m hb (by omega)
      obtain ⟨S2, t1, t2, t3⟩ := tidy_rl (r1.mono (show m + 3 ≤ m + 4 * 4 ^ (0 + 1) by omega)) (t.closed _)
      refine ⟨t, S2, ?_, t2, t3, o1, by omega, by omega⟩
      simp at e1
      simp [m22, h3, e1, t1]
    have hd2 : ¬ ((d : Int) + 1 < 2) := by omega
    obtain ⟨v, S1, e1, r1, l1, v0, v1⟩ := draw (k + 1 + d + 1) S b m 9 hb (by omega) (by decide) (by decide)
    by_cases hv : v = 0
    · obtain ⟨t, S2, e2, r2, l2, o1, z1, d1⟩ := leaf (k + 1 + d) S1 b (m + 1) r1.bg (by omega)
      obtain ⟨S3, t1, t2, t3⟩ := tidy_rl ((r1.trans r2).mono (show m + 1 + 3 ≤ m + 4 * 4 ^ (d + 1) by omega)) (t.closed _)
      refine ⟨t, S3, ?_, t2, t3, o1, by omega, by omega⟩
      simp [m22, h3, hd2, e1, hv, e2, t1]
    have n1 : (S1 ++ [Ob.lst WORDS])[S1.length]? = some (.lst WORDS) := by simp
    obtain ⟨wd, S2, e2, r2, l2, hw⟩ := choice (k + 1 + d) (S1 ++ [.lst WORDS]) b (m + 1) S1.length WORDS (r1.bg.snoc _) (by omega) n1 (Nat.ne_of_gt (by rw [l1]; exact r1.lt)) (by decide) (by decide) (fun x hx => by
      rcases word_cases hx with ⟨u, rfl⟩ | rfl <;> rfl)
    have q2 : Rl b (m + 2) S S2 := (r1.snoc _).trans r2
    have nw : ∀ S : Store, newLst WORDS S = .ok (.ref S.length) (S ++ [.lst WORDS]) := fun S => nl rfl
    rcases word_cases hw with ⟨u, rfl⟩ | rfl
    · -- two parts
      obtain ⟨f, S3, e3, r3, l3, f0, f1⟩ := draw (k + 1 + d + 1) S2 b (m + 2) (left - 2) q2.bg (by omega) (by omega) (by omega)
      obtain ⟨ta, S4, e4, r4, l4, o4, z4, d4⟩ := term_ok d k S3 b (m + 3) (1 + f) (by omega) (by omega) (by omega) r3.bg (by omega)
      obtain ⟨tb, S5, e5, r5, l5, o5, z5, d5⟩ := term_ok d k S4 b (m + 3 + 4 ^ (d + 1)) (left - 1 - (1 + f)) (by omega) (by omega) (by omega) r4.bg (by omega)
      rw [show k + 3 + d = k + 1 + d + 2 by omega] at e4 e5
      obtain ⟨S6, t1, t2, t3⟩ := tidy_rl (d := (Tm.two u ta tb).toD) ((q2.trans (r3.trans (r4.trans r5))).mono (show m + 3 + 4 ^ (d + 1) + 4 ^ (d + 1) ≤ m + 4 * 4 ^ (d + 1) by omega)) (Tm.closed _ _)
      refine ⟨.two u ta tb, S6, ?_, t2, t3, ⟨o4, o5⟩, by simp only [Tm.size]; omega, by simp only [Tm.dep]; omega⟩
      simp only [Tm.toD] at t1
      simp [m22, h3, hd2, e1, hv, nw, e2, w_ne, e3, e4, e5, t1, Tm.toD]
    · -- three parts
      have ns0 : newLst [] S2 = .ok (.ref S2.length) (S2 ++ [.lst []]) := nl rfl
      have hne : S2.length ≠ b := Nat.ne_of_gt (Nat.lt_of_lt_of_le q2.lt q2.len)
      by_cases h4 : 3 < left
      · let big : Int := if (left - 1) / 3 > 1 then (left - 1) / 3 else 1
        have hbig1 : 1 ≤ big ∧ 3 * big ≤ left - 1 := by
          show 1 ≤ (if (left - 1) / 3 > 1 then (left - 1) / 3 else 1) ∧ 3 * (if (left - 1) / 3 > 1 then (left - 1) / 3 else 1) ≤ left - 1
          split <;> omega
        obtain ⟨ts, S3, u6, g1, g2, g3, g4, g5, g6, g7⟩ := loop3 e22 (cN (k + 1 + d + 2)) [.int 0, .int 1, .int 2] b S2.length (4 ^ (d + 1)) (fun t => t.ok ∧ (t.size : Int) ≤ big ∧ t.dep ≤ d) (some (.ref b)) (some (.int left)) (some (.int ((d : Int) + 1))) (some (.str [99, 104, 111, 111, 115, 101])) none hne
          (fun u6 S' m' hb' hm' => by
            obtain ⟨t, S'', e, r, l, o, z, dd⟩ := term_ok d k S' b m' big (by omega) hbig1.1 (by omega) hb' hm'
            rw [show k + 3 + d = k + 1 + d + 2 by omega] at e
            refine ⟨t, S'', ?_, r, l, o, z, dd⟩
            have dv : dDiv (.int (left - 1)) (.int 3) S' = .ok (.int ((left - 1) / 3)) S' := div_pos (by decide) (by decide)
            have mx : dMax2 [.int 1, .int ((left - 1) / 3)] S' = .ok (.int big) S' := rfl
            simp [e22, h4, dv, mx, e]) [.int 0, .int 1, .int 2] [] (S2 ++ [.lst []]) (m + 2) none (by simp) (q2.bg.snoc _) (by simp; omega) (by simp)
        obtain ⟨a, b', c', rfl⟩ := len3 g6
        have pa := g7 a (by simp)
        have pb := g7 b' (by simp)
        have pc := g7 c' (by simp)
        have q3 : Rl b (m + 4 * 4 ^ (d + 1)) S S3 := ⟨by rw [g3]; simp; have := q2.len; omega, fun i hi hib => by
          have hi2 := Nat.lt_of_lt_of_le hi q2.len
          rw [g4 i (by simp; omega) hib (Nat.ne_of_lt hi2), List.getElem?_append_left hi2]
          exact q2.old i hi hib, g5.mono (by simp; omega), q2.lt⟩
        obtain ⟨S6, t1, t2, t3⟩ := tidy_rl (d := (Tm.three a b' c').toD) q3 (Tm.closed _ _)
        refine ⟨.three a b' c', S6, ?_, t2, t3, ⟨pa.1, pb.1, pc.1⟩, by simp only [Tm.size]; have := pa.2.1; have := pb.2.1; have := pc.2.1; omega, by simp only [Tm.dep]; have := pa.2.2; have := pb.2.2; have := pc.2.2; omega⟩
        simp only [Tm.toD, sChoose] at t1
        simp only [List.nil_append, List.map_cons, List.map_nil] at g2
        have tp := l_tup g2
        have ad := adT (S := S3) (a := [.str [99, 104, 111, 111, 115, 101]]) (b := [a.toD, b'.toD, c'.toD]) rfl
        simp only [sChoose] at e2
        simp [m22, h3, hd2, e1, hv, nw, e2, ns0, x_for, it3, It.items]
        rw [g1]
        simp [h4, tp, ad, t1, Tm.toD, sChoose]
      · have hl3 : left = 3 := by omega
        obtain ⟨ts, S3, u6, g1, g2, g3, g4, g5, g6, g7⟩ := loop3 e22 (cN (k + 1 + d + 2)) [.int 0, .int 1, .int 2] b S2.length 3 (fun t => t.ok ∧ t.size = 1 ∧ t.dep = 1) (some (.ref b)) (some (.int left)) (some (.int ((d : Int) + 1))) (some (.str [99, 104, 111, 111, 115, 101])) none hne
          (fun u6 S' m' hb' hm' => by
            obtain ⟨t, S'', e, r, l, o, z, dd⟩ := leaf (k + 1 + d) S' b m' hb' hm'
            refine ⟨t, S'', ?_, r, l, o, z, dd⟩
            simp [e22, h4, e]) [.int 0, .int 1, .int 2] [] (S2 ++ [.lst []]) (m + 2) none (by simp) (q2.bg.snoc _) (by simp; omega) (by simp)
        obtain ⟨a, b', c', rfl⟩ := len3 g6
        have pa := g7 a (by simp)
        have pb := g7 b' (by simp)
        simp only [List.nil_append, List.map_cons, List.map_nil] at g2
        have p16 : 16 ≤ 4 ^ (d + 1) := Nat.le_trans (by decide) (Nat.pow_le_pow_right (by decide) (show 2 ≤ d + 1 by omega))
        have q3 : Rl b (m + 4 * 4 ^ (d + 1)) S (S3 ++ [.lst [a.toD, b'.toD]]) := Rl.snoc ⟨by rw [g3]; simp; have := q2.len; omega, fun i hi hib => by
          have hi2 := Nat.lt_of_lt_of_le hi q2.len
          rw [g4 i (by simp; omega) hib (Nat.ne_of_lt hi2), List.getElem?_append_left hi2]
          exact q2.old i hi hib, g5.mono (by simp; omega), q2.lt⟩ _
        obtain ⟨S6, t1, t2, t3⟩ := tidy_rl (d := (Tm.two .most a b').toD) q3 (Tm.closed _ _)
        refine ⟨.two .most a b', S6, ?_, t2, t3, ⟨pa.1, pb.1⟩, by simp only [Tm.size]; have := pa.2.1; have := pb.2.1; omega, by simp only [Tm.dep]; have := pa.2.2; have := pb.2.2; omega⟩
        simp only [Tm.toD, W2.s] at t1
        have sl : dSl (.ref S2.length) none (some 2) S3 = .ok (.ref S3.length) (S3 ++ [.lst [a.toD, b'.toD]]) := by
          have e : lstOf S3 S2.length = some [a.toD, b'.toD, c'.toD] := by unfold lstOf; rw [g2]
          show (match lstOf S3 S2.length with | some ds => Res.ok (D.ref S3.length) (S3 ++ [Ob.lst (cutL ds none (some 2))]) | none => Res.err) = _
          rw [e]; rfl
        have tp := l_tup (S := S3 ++ [.lst [a.toD, b'.toD]]) (n := S3.length) (ds := [a.toD, b'.toD]) (by simp)
        have ad := adT (S := S3 ++ [.lst [a.toD, b'.toD]]) (a := [.str [109, 111, 115, 116]]) (b := [a.toD, b'.toD]) rfl
        simp only [sChoose] at e2
        simp [m22, h3, hd2, e1, hv, nw, e2, ns0, x_for, it3, It.items]
        rw [g1]
        simp [h4, sl, tp, ad, t1, Tm.toD, W2.s]
end L92
end Q
namespace Q
open PySem L2
namespace L92
/-- the flat term of n nodes is at most f deep -/
def FD : Nat → Nat → Bool
  | 0, _ => false
  | f + 1, n => if n < 4 then (n != 3) || decide (1 ≤ f) else
    if n % 2 = 0 then decide (1 ≤ f) && FD f (n - 3) else
    FD f (if (n - 1) / 2 % 2 = 1 then (n - 1) / 2 else (n - 1) / 2 - 1) && FD f (n - 1 - (if (n - 1) / 2 % 2 = 1 then (n - 1) / 2 else (n - 1) / 2 - 1))
theorem FD_all : (List.range 201).all (fun n => FD 20 n) = true := by decide +kernel
theorem flat_ok : ∀ (f n k : Nat) (S : Store) (b m : Nat), FD f n = true → 1 ≤ n → n ≤ 200 → Bg S b m → m + 3 * n ≤ 2 ^ 100 →
    ∃ (t : Tm) (S' : Store), cN (k + 2 + f) 23 [.ref b, .int n] S = .ok t.toD S' ∧ Rl b (m + 3 * n) S S' ∧ S'.length = S.length ∧ t.ok ∧ t.size ≤ n ∧ t.dep ≤ f
  | 0, _, _, _, _, _, h, _, _, _, _ => by simp [FD] at h
  | f + 1, n, k, S, b, m, h, hn1, hn2, hb, hm => by
    unfold FD at h
    rw [show k + 2 + (f + 1) = (k + f + 2) + 1 by omega, call23]
    by_cases h4 : n < 4
    · have h4' : (n : Int) < 4 := by omega
      rw [if_pos h4] at h
      by_cases h3 : n = 3
      · subst h3
        have hf : 1 ≤ f := by simpa using h
        obtain ⟨ta, S1, e1, r1, l1, o1, z1, d1⟩ := leaf (k + f) S b m hb (by omega)
        obtain ⟨tb, S2, e2, r2, l2, o2, z2, d2⟩ := leaf (k + f) S1 b (m + 3) r1.bg (by omega)
        obtain ⟨S3, t1, t2, t3⟩ := tidy_rl (d := (Tm.two .plus ta tb).toD) ((r1.trans r2).mono (show m + 3 + 3 ≤ m + 3 * 3 by omega)) (Tm.closed _ _)
        refine ⟨.two .plus ta tb, S3, ?_, t2, t3, ⟨o1, o2⟩, by simp only [Tm.size]; omega, by simp only [Tm.dep]; omega⟩
        simp only [Tm.toD, W2.s] at t1
        simp [m23, e1, e2, t1, Tm.toD, W2.s]
      · obtain ⟨ta, S1, e1, r1, l1, o1, z1, d1⟩ := leaf (k + f) S b m hb (by omega)
        obtain ⟨S3, t1, t2, t3⟩ := tidy_rl (r1.mono (show m + 3 ≤ m + 3 * n by omega)) (ta.closed _)
        have h3' : ¬ ((n : Int) = 3) := by omega
        refine ⟨ta, S3, ?_, t2, t3, o1, by omega, by omega⟩
        simp [m23, h4', h3', e1, t1]
    · have h4' : ¬ (n : Int) < 4 := by omega
      rw [if_neg h4] at h
      have md : ∀ S, dMod (.int n) (.int 2) S = .ok (.int ((n : Int) % 2)) S := fun S => mod_pos (by decide)
      by_cases h2 : n % 2 = 0
      · rw [if_pos h2] at h
        simp only [Bool.and_eq_true, decide_eq_true_eq] at h
        have h2' : (n : Int) % 2 = 0 := by omega
        obtain ⟨ta, S1, e1, r1, l1, o1, z1, d1⟩ := leaf (k + f) S b m hb (by omega)
        obtain ⟨tb, S2, e2, r2, l2, o2, z2, d2⟩ := leaf (k + f) S1 b (m + 3) r1.bg (by omega)
        obtain ⟨tc, S3, e3, r3, l3, o3, z3, d3⟩ := flat_ok f (n - 3) k S2 b (m + 6) h.2 (by omega) (by omega) r2.bg (by omega)
        rw [show k + 2 + f = k + f + 2 by omega, show ((n - 3 : Nat) : Int) = (n : Int) - 3 by omega] at e3
        obtain ⟨S4, t1, t2, t3⟩ := tidy_rl (d := (Tm.three ta tb tc).toD) ((r1.trans (r2.trans r3)).mono (show m + 6 + 3 * (n - 3) ≤ m + 3 * n by omega)) (Tm.closed _ _)
        refine ⟨.three ta tb tc, S4, ?_, t2, t3, ⟨o1, o2, o3⟩, by simp only [Tm.size]; omega, by simp only [Tm.dep]; omega⟩
        simp only [Tm.toD, sChoose] at t1
        simp [m23, h4', md, h2', e1, e2, e3, t1, Tm.toD, sChoose]
      · rw [if_neg h2] at h
        simp only [Bool.and_eq_true] at h
        have h2' : ¬ ((n : Int) % 2 = 0) := by omega
        generalize hL : (if (n - 1) / 2 % 2 = 1 then (n - 1) / 2 else (n - 1) / 2 - 1) = L at h
        have hL1 : 1 ≤ L ∧ L + 2 ≤ n := by rw [← hL]; split <;> omega
        have dv : ∀ S, dDiv (.int ((n : Int) - 1)) (.int 2) S = .ok (.int (((n : Int) - 1) / 2)) S := fun S => div_pos (by decide) (by decide)
        have md2 : ∀ S, dMod (.int (((n : Int) - 1) / 2)) (.int 2) S = .ok (.int (((n : Int) - 1) / 2 % 2)) S := fun S => mod_pos (by decide)
        obtain ⟨ta, S1, e1, r1, l1, o1, z1, d1⟩ := flat_ok f L k S b m h.1 (by omega) (by omega) hb (by omega)
        obtain ⟨tb, S2, e2, r2, l2, o2, z2, d2⟩ := flat_ok f (n - 1 - L) k S1 b (m + 3 * L) h.2 (by omega) (by omega) r1.bg (by omega)
        rw [show k + 2 + f = k + f + 2 by omega] at e1 e2
        have hf : 1 ≤ f := by
          cases f with
          | zero => simp [FD] at h
          | succ f => omega
        rw [show ((n - 1 - L : Nat) : Int) = (n : Int) - 1 - L by omega] at e2
        obtain ⟨S4, t1, t2, t3⟩ := tidy_rl (d := (Tm.two .less ta tb).toD) ((r1.trans r2).mono (show m + 3 * L + 3 * (n - 1 - L) ≤ m + 3 * n by omega)) (Tm.closed _ _)
        refine ⟨.two .less ta tb, S4, ?_, t2, t3, ⟨o1, o2⟩, by simp only [Tm.size]; omega, by simp only [Tm.dep]; omega⟩
        simp only [Tm.toD, W2.s] at t1
        by_cases ho : ((n : Int) - 1) / 2 % 2 = 1
        · have e : ((n : Int) - 1) / 2 = (L : Int) := by rw [← hL, if_pos (by omega)]; omega
          rw [e] at dv md2 ho
          simp [m23, h4', md, h2', dv, md2, ho, e1, e2, t1, Tm.toD, W2.s]
        · have e : ((n : Int) - 1) / 2 - 1 = (L : Int) := by rw [← hL, if_neg (by omega)]; omega
          simp [m23, h4', md, h2', dv, md2, ho, e, e1, e2, t1, Tm.toD, W2.s]
abbrev b24 : SS := (sAsg (mIf (tVal (mOp dEq (mCall 18 (mCons (mVar 0) (mCons (mC (.int 2)) mNil))) (mC (.int 0)))) (mTup (mCons (mC (.str [108, 101, 97, 115, 116])) (mCons (mVar 2) (mCons (mCall 21 (mCons (mVar 0) mNil)) mNil)))) (mTup (mCons (mC (.str [116, 105, 109, 101, 115])) (mCons (mCall 21 (mCons (mVar 0) mNil)) (mCons (mVar 2) mNil))))) (gNm 2))
theorem nest_go (k : Nat) (L : List D) (b : Nat) (dp : Option D) : ∀ (is : List D) (S : Store) (m : Nat) (t : Tm) (u3 : Option D), Bg S b m → m + 4 * is.length ≤ 2 ^ 100 → t.ok → ∃ (t' : Tm) (S' : Store) (u3' : Option D),
    forGo (It.vals L).holds (gNm 3) (b24 (cN (k + 2))) is [some (.ref b), dp, some t.toD, u3] S = .nxt [some (.ref b), dp, some t'.toD, u3'] S' ∧ Rl b (m + 4 * is.length) S S' ∧ t'.ok ∧ t'.size = t.size + 2 * is.length ∧ t'.dep ≤ t.dep + is.length
  | [], S, m, t, u3, hb, _, ho => ⟨t, S, u3, by simp [forGo, It.holds], Rl.refl (by simpa using hb), ho, by simp, by simp⟩
  | i :: is, S, m, t, u3, hb, hm, ho => by
    simp only [List.length_cons] at hm
    obtain ⟨v, S1, e1, r1, l1, v0, v1⟩ := draw (k + 1) S b m 2 hb (by omega) (by decide) (by decide)
    obtain ⟨x, S2, e2, r2, l2, o2, z2, d2⟩ := leaf k S1 b (m + 1) r1.bg (by omega)
    have dp1 := t.dep_pos
    by_cases hv : v = 0
    · obtain ⟨t', S3, u3', g1, g2, g3, g4, g5⟩ := nest_go k L b dp is S2 (m + 1 + 3) (.two .least t x) (some i) r2.bg (by omega) ⟨ho, o2⟩
      refine ⟨t', S3, u3', ?_, (r1.trans (r2.trans g2)).mono (by simp; omega), g3, by rw [g4]; simp only [Tm.size, List.length_cons]; omega, by simp only [Tm.dep, List.length_cons] at g5 ⊢; omega⟩
      simp only [Tm.toD, W2.s] at g1
      simp only [forGo, It.holds, gNm]
      simp [e1, hv, e2]
      rw [g1]
    · obtain ⟨t', S3, u3', g1, g2, g3, g4, g5⟩ := nest_go k L b dp is S2 (m + 1 + 3) (.two .times x t) (some i) r2.bg (by omega) ⟨o2, ho⟩
      refine ⟨t', S3, u3', ?_, (r1.trans (r2.trans g2)).mono (by simp; omega), g3, by rw [g4]; simp only [Tm.size, List.length_cons]; omega, by simp only [Tm.dep, List.length_cons] at g5 ⊢; omega⟩
      simp only [Tm.toD, W2.s] at g1
      simp only [forGo, It.holds, gNm]
      simp [e1, hv, e2]
      rw [g1]
theorem nest_ok (k : Nat) (S : Store) (b m : Nat) (n : Nat) (hb : Bg S b m) (hm : m + 200 ≤ 2 ^ 100) (h1 : 1 ≤ n) (h2 : n ≤ 20) :
    ∃ (t : Tm) (S' : Store), cN (k + 3) 24 [.ref b, .int n] S = .ok t.toD S' ∧ Rl b (m + 200) S S' ∧ S'.length = S.length ∧ t.ok ∧ t.size ≤ 60 ∧ t.dep ≤ 20 := by
  obtain ⟨x, S1, e1, r1, l1, o1, z1, d1⟩ := leaf k S b m hb (by omega)
  have ln : (upD 0 ((n : Int) - 1).toNat).length = n - 1 := by rw [up_len]; omega
  obtain ⟨t, S2, u3, g1, g2, g3, g4, g5⟩ := nest_go k (upD 0 ((n : Int) - 1).toNat) b (some (.int n)) (upD 0 ((n : Int) - 1).toNat) S1 (m + 3) x none r1.bg (by rw [ln]; omega) o1
  rw [ln] at g2 g4 g5
  obtain ⟨S3, t1, t2, t3⟩ := tidy_rl ((r1.trans g2).mono (show m + 3 + 4 * (n - 1) ≤ m + 200 by omega)) (t.closed _)
  refine ⟨t, S3, ?_, t2, t3, g3, by omega, by omega⟩
  have ir : inR ((n : Int) - 1) = true := by
    unfold inR
    rw [decide_eq_true (show -(2 ^ 62) ≤ (n : Int) - 1 by omega), decide_eq_true (show (n : Int) - 1 < 2 ^ 62 by omega)]; rfl
  rw [call24]
  simp [m24, e1, x_for, iR1, ints1, ir, It.items]
  have e : ((n : Int) - 1).toNat = n - 1 := by omega
  rw [e] at g1
  rw [g1]
  simp [t1]
end L92
end Q
namespace Q
open PySem L2
/-- one new thing comes back, the rest is forgotten -/
theorem tidy_new {S T : Store} {n : Nat} {o : Ob} (h : (S ++ T)[n]? = some o) (hn : S.length ≤ n) (hc : closedOb S.length o = true) : tidy S (.ref n) (S ++ T) = .ok (.ref S.length) (S ++ [o]) := by
  unfold tidy
  rw [if_pos (oldOk_app _ T S)]
  have : ¬ (closed S.length (.ref n) = true) := by simp [closed]; omega
  rw [if_neg this]
  simp only [h, hc, if_true, List.take_left]
theorem mul_r {S : Store} {i j : Int} (h : j.natAbs < 100000000) : dMul (.int i) (.int j) S = .ok (.int (i * j)) S := by
  show (if mulOk i j then _ else _) = _
  rw [if_pos]
  unfold mulOk
  rw [decide_eq_true (show j.natAbs < 2 ^ 64 by omega)]
  simp
theorem allInts_map (l : List Int) : allInts (l.map D.int) = some l := by
  induction l with
  | nil => rfl
  | cons a l ih => simp [allInts, ih]
theorem cut_map (l : List Int) (a b : Option Int) : cutL (l.map D.int) a b = (cutL l a b).map D.int := by
  unfold cutL
  simp
namespace L92
theorem any_ok (k : Nat) (S : Store) (b : Nat) (hb : Bg S b 0) :
    ∃ (t : Tm) (S' : Store), cN (k + 30) 25 [.ref b] S = .ok t.toD S' ∧ Rl b (2 ^ 100) S S' ∧ S'.length = S.length ∧ t.ok ∧ t.size ≤ 200 ∧ t.dep ≤ 20 := by
  have c21 : 4 ^ 21 + 10 ≤ 2 ^ 100 := by decide +kernel
  obtain ⟨v, S1, e1, r1, l1, v0, v1⟩ := draw (k + 28) S b 0 8 hb (by omega) (by decide) (by decide)
  have hne : S1.length ≠ b := Nat.ne_of_gt (by rw [l1]; exact r1.lt)
  by_cases h0 : v = 0
  · obtain ⟨u, S2, e2, r2, l2, u0, u1⟩ := draw (k + 28) S1 b 1 190 r1.bg (by omega) (by decide) (by decide)
    let ds : List D := [.int 200, .int 199, .int 198, .int (3 + u)]
    have n1 : (S2 ++ [Ob.lst ds])[S2.length]? = some (.lst ds) := by simp
    obtain ⟨w, S3, e3, r3, l3, hw⟩ := choice (k + 27) (S2 ++ [.lst ds]) b 2 S2.length ds (r2.bg.snoc _) (by omega) n1 (by rw [l2]; exact hne) (by simp [ds]) (by simp [ds]) (fun x hx => by
      simp only [ds, List.mem_cons, List.not_mem_nil, or_false] at hx
      rcases hx with rfl | rfl | rfl | rfl <;> rfl)
    obtain ⟨n, rfl, n0, n2⟩ : ∃ n : Nat, w = .int (n : Int) ∧ 1 ≤ n ∧ n ≤ 200 := by
      simp only [ds, List.mem_cons, List.not_mem_nil, or_false] at hw
      rcases hw with rfl | rfl | rfl | rfl
      · exact ⟨200, rfl, by decide, by decide⟩
      · exact ⟨199, rfl, by decide, by decide⟩
      · exact ⟨198, rfl, by decide, by decide⟩
      · exact ⟨(3 + u).toNat, by congr 1; omega, by omega, by omega⟩
    have fd : FD 20 n = true := by
      have := List.all_eq_true.mp FD_all n (by simp; omega)
      exact this
    obtain ⟨t, S4, e4, r4, l4, o4, z4, d4⟩ := flat_ok 20 n (k + 7) S3 b 3 fd n0 n2 r3.bg (by omega)
    have q : Rl b (2 ^ 100) S S4 := (((r1.trans r2).snoc (.lst ds)).trans (r3.trans r4)).mono (by omega)
    obtain ⟨S5, t1, t2, t3⟩ := tidy_rl q (t.closed _)
    refine ⟨t, S5, ?_, t2, t3, o4, by omega, d4⟩
    have nl1 : ∀ S, newLst ds S = .ok (.ref S.length) (S ++ [.lst ds]) := fun S => nl (by simp [ds])
    rw [call25]
    simp only [ds] at nl1 e3
    simp [m25, e1, h0, e2, nl1, e3, e4, t1]
  · by_cases h1 : v = 1
    · obtain ⟨u, S2, e2, r2, l2, u0, u1⟩ := draw (k + 28) S1 b 1 18 r1.bg (by omega) (by decide) (by decide)
      let ds : List D := [.int 20, .int 19, .int (2 + u)]
      have n1 : (S2 ++ [Ob.lst ds])[S2.length]? = some (.lst ds) := by simp
      obtain ⟨w, S3, e3, r3, l3, hw⟩ := choice (k + 27) (S2 ++ [.lst ds]) b 2 S2.length ds (r2.bg.snoc _) (by omega) n1 (by rw [l2]; exact hne) (by simp [ds]) (by simp [ds]) (fun x hx => by
        simp only [ds, List.mem_cons, List.not_mem_nil, or_false] at hx
        rcases hx with rfl | rfl | rfl <;> rfl)
      obtain ⟨n, rfl, n0, n2⟩ : ∃ n : Nat, w = .int (n : Int) ∧ 1 ≤ n ∧ n ≤ 20 := by
        simp only [ds, List.mem_cons, List.not_mem_nil, or_false] at hw
        rcases hw with rfl | rfl | rfl
        · exact ⟨20, rfl, by decide, by decide⟩
        · exact ⟨19, rfl, by decide, by decide⟩
        · exact ⟨(2 + u).toNat, by congr 1; omega, by omega, by omega⟩
      obtain ⟨t, S4, e4, r4, l4, o4, z4, d4⟩ := nest_ok (k + 26) S3 b 3 n r3.bg (by omega) n0 n2
      have q : Rl b (2 ^ 100) S S4 := (((r1.trans r2).snoc (.lst ds)).trans (r3.trans r4)).mono (by omega)
      obtain ⟨S5, t1, t2, t3⟩ := tidy_rl q (t.closed _)
      refine ⟨t, S5, ?_, t2, t3, o4, by omega, d4⟩
      have nl1 : ∀ S, newLst ds S = .ok (.ref S.length) (S ++ [.lst ds]) := fun S => nl (by simp [ds])
      rw [call25]
      simp only [ds] at nl1 e3
      subst h1
      simp [m25, e1, e2, nl1, e3, e4, t1]
    · let ds : List D := [.int 1, .int 3, .int 5, .int 9, .int 20, .int 60]
      have n1 : (S1 ++ [Ob.lst ds])[S1.length]? = some (.lst ds) := by simp
      obtain ⟨w, S3, e3, r3, l3, hw⟩ := choice (k + 27) (S1 ++ [.lst ds]) b 1 S1.length ds (r1.bg.snoc _) (by omega) n1 hne (by simp [ds]) (by simp [ds]) (fun x hx => by
        simp only [ds, List.mem_cons, List.not_mem_nil, or_false] at hx
        rcases hx with rfl | rfl | rfl | rfl | rfl | rfl <;> rfl)
      obtain ⟨n, rfl, n0, n2⟩ : ∃ n : Int, w = .int n ∧ 1 ≤ n ∧ n ≤ 60 := by
        simp only [ds, List.mem_cons, List.not_mem_nil, or_false] at hw
        rcases hw with rfl | rfl | rfl | rfl | rfl | rfl
        · exact ⟨1, rfl, by decide, by decide⟩
        · exact ⟨3, rfl, by decide, by decide⟩
        · exact ⟨5, rfl, by decide, by decide⟩
        · exact ⟨9, rfl, by decide, by decide⟩
        · exact ⟨20, rfl, by decide, by decide⟩
        · exact ⟨60, rfl, by decide, by decide⟩
      obtain ⟨t, S4, e4, r4, l4, o4, z4, d4⟩ := term_ok 20 (k + 6) S3 b 2 n (by decide) n0 n2 r3.bg (by omega)
      have q : Rl b (2 ^ 100) S S4 := ((r1.snoc (.lst ds)).trans (r3.trans r4)).mono (by omega)
      obtain ⟨S5, t1, t2, t3⟩ := tidy_rl q (t.closed _)
      refine ⟨t, S5, ?_, t2, t3, o4, by omega, d4⟩
      have nl1 : ∀ S, newLst ds S = .ok (.ref S.length) (S ++ [.lst ds]) := fun S => nl (by simp [ds])
      rw [call25]
      simp only [ds] at nl1 e3
      rw [show ((20 : Nat) : Int) = 20 from rfl] at e4
      simp [m25, e1, h0, h1, nl1, e3, e4, t1]
/-! ### the bags -/
theorem bag_ok (k : Nat) (S : Store) (ns : List Int) (j : Nat) (hs : S[0]? = some (.rol (ns.map D.int))) (hj : j ≤ 100) :
    ∃ b0 b1 : Int, cN (k + 1) 17 [.ref 0, .int j] S = .ok (.ref S.length) (S ++ [.lst [.int b0, .int b1, .int 0]]) ∧ 0 ≤ b1 ∧ b1 ≤ 10 ^ 38 := by
  have lo : lstOf S 0 = some (ns.map D.int) := by unfold lstOf; rw [hs]
  have ln : dLen [.ref 0] S = .ok (.int ns.length) S := by
    show (match lstOf S 0 with | some ds => Res.ok (D.int ds.length) S | none => Res.err) = _
    rw [lo]; simp
  have p18 : ∀ S, dPow (.int 10) (.int 18) S = .ok (.int (10 ^ 18)) S := fun S => pow10 18 (by decide)
  have p37 : ∀ S, dPow (.int 10) (.int 37) S = .ok (.int (10 ^ 37)) S := fun S => pow10 37 (by decide)
  have m5 : ∀ S, dMul (.int 5) (.int j) S = .ok (.int (5 * j)) S := fun S => mul_small (by decide)
  have m131 : ∀ S, dMul (.int 131) (.int j) S = .ok (.int (131 * j)) S := fun S => mul_small (by decide)
  have m977 : ∀ S, dMul (.int 977) (.int (j + 1)) S = .ok (.int (977 * (j + 1))) S := fun S => mul_small (by decide)
  have m89 : ∀ S i, dMul (.int 89) (.int i) S = .ok (.int (89 * i)) S := fun S i => mul_small (by decide)
  have mr : ∀ S i, dMul (.int i) (.int 3559) S = .ok (.int (i * 3559)) S := fun S i => mul_r (by decide)
  have md : ∀ S i, dMod (.int i) (.int (10 ^ 37 + 43)) S = .ok (.int (i % (10 ^ 37 + 43))) S := fun S i => mod_pos (by decide)
  have n3 : ∀ (x y z : D) (S : Store), newLst [x, y, z] S = .ok (.ref S.length) (S ++ [.lst [x, y, z]]) := fun x y z S => nl rfl
  -- what follows once the cell is there, at the store Sc
  have rest : ∀ (cell : Int) (T : Store), ∃ b0 b1 : Int, fin S ((sSeq (sIf (tVal (mOp dGe (mVar 2) (mOp dPow (mC (.int 10)) (mC (.int 18))))) (sRet (mLst (mCons (mOp dSub (mVar 2) (mOp dPow (mC (.int 10)) (mC (.int 18)))) (mCons (mOp dAdd (mOp dMul (mC (.int 5)) (mVar 1)) (mC (.int 23))) (mCons (mC (.int 0)) mNil))))) sSkip) (sRet (mLst (mCons (mC (.int 0)) (mCons (mOp dMod (mApp dInt (mCons (mOp dAdd (mOp dAdd (mOp dMul (mVar 2) (mC (.int 3559))) (mOp dMul (mC (.int 131)) (mVar 1))) (mC (.int 7))) mNil)) (mOp dAdd (mOp dPow (mC (.int 10)) (mC (.int 37))) (mC (.int 43)))) (mCons (mC (.int 0)) mNil)))))) (cN k) [some (.ref 0), some (.int j), some (.int cell)] (S ++ T)) =
      .ok (.ref S.length) (S ++ [.lst [.int b0, .int b1, .int 0]]) ∧ 0 ≤ b1 ∧ b1 ≤ 10 ^ 38 := by
    intro cell T
    by_cases hc : (10 : Int) ^ 18 ≤ cell
    · refine ⟨cell - 10 ^ 18, 5 * j + 23, ?_, by omega, by omega⟩
      have td := tidy_new (S := S) (T := T ++ [.lst [.int (cell - 10 ^ 18), .int (5 * j + 23), .int 0]]) (n := (S ++ T).length) (o := .lst [.int (cell - 10 ^ 18), .int (5 * j + 23), .int 0]) (by rw [← List.append_assoc]; simp) (by simp) rfl
      rw [← List.append_assoc] at td
      simp only [x_seq, x_sIf, x_tVal, x_op, x_var, x_C, List.getElem?_cons_zero, List.getElem?_cons_succ, bind_ok, p18, v_cmp, decide_eq_true hc, thenS_ok, if_true, x_ret, x_lst, x_cons, x_nil, v_sub, m5, v_add, n3, seq_ret, fin_ret, td]
    · refine ⟨0, (cell * 3559 + 131 * j + 7) % (10 ^ 37 + 43), ?_, Int.emod_nonneg _ (by decide), ?_⟩
      · have td := tidy_new (S := S) (T := T ++ [.lst [.int 0, .int ((cell * 3559 + 131 * j + 7) % (10 ^ 37 + 43)), .int 0]]) (n := (S ++ T).length) (o := .lst [.int 0, .int ((cell * 3559 + 131 * j + 7) % (10 ^ 37 + 43)), .int 0]) (by rw [← List.append_assoc]; simp) (by simp) rfl
        rw [← List.append_assoc] at td
        simp only [x_seq, x_sIf, x_tVal, x_op, x_var, x_C, List.getElem?_cons_zero, List.getElem?_cons_succ, bind_ok, p18, v_cmp, decide_eq_false hc, thenS_ok, Bool.false_eq_true, if_false, x_skip, seq_nxt, x_ret, x_lst, x_cons, x_nil, x_app, v_int, v_add, mr, m131, p37, md, n3, fin_ret, td]
      · have h1 : (cell * 3559 + 131 * j + 7) % (10 ^ 37 + 43) < 10 ^ 37 + 43 := Int.emod_lt_of_pos _ (by decide)
        have h2 : (10 : Int) ^ 37 + 43 ≤ 10 ^ 38 := by decide
        omega
  rw [call17]
  by_cases hk : (j : Int) < ns.length
  · have hj2 : j < ns.length := by omega
    have a : atI (ns.map D.int) (j : Int) = some (.int ns[j]) := by
      unfold atI L2.ixN
      rw [if_pos (by omega), if_pos (by simp; omega)]
      simp [hj2]
    have ix : dIx (.ref 0) (.int j) S = .ok (.int ns[j]) S := by
      show (match lstOf S 0 with | some ds => (match atI ds j with | some d => Res.ok d S | none => Res.err) | none => Res.err) = _
      rw [lo]
      simp only [a]
    obtain ⟨b0, b1, g1, g2, g3⟩ := rest ns[j] []
    refine ⟨b0, b1, ?_, g2, g3⟩
    rw [List.append_nil] at g1
    rw [← g1]
    rw [x_run, if_pos (show [D.ref 0, D.int (j : Int)].length = 2 from rfl)]
    show fin S (m17 (cN k) [some (.ref 0), some (.int j), none] S) = _
    unfold m17
    rw [x_seq, x_asg, x_if]
    simp only [x_tVal, x_op, x_var, x_app, x_cons, x_nil, List.map_cons, List.map_nil, List.length_cons, List.length_nil, List.replicate, List.cons_append, List.nil_append, List.getElem?_cons_zero, List.getElem?_cons_succ, bind_ok, ln, v_cmp, decide_eq_true hk, if_true, ix, thenS_ok, seq_nxt, List.set_cons_succ, List.set_cons_zero]
  · have sl : dSl (.ref 0) none (some 5) S = .ok (.ref S.length) (S ++ [.lst ((cutL ns none (some 5)).map D.int)]) := by
      show (match lstOf S 0 with | some ds => Res.ok (D.ref S.length) (S ++ [Ob.lst (cutL ds none (some 5))]) | none => Res.err) = _
      rw [lo]
      simp only [cut_map]
    have sm : dSum [.ref S.length] (S ++ [.lst ((cutL ns none (some 5)).map D.int)]) = .ok (.int (cutL ns none (some 5)).sum) (S ++ [.lst ((cutL ns none (some 5)).map D.int)]) := by
      have e : lstOf (S ++ [.lst ((cutL ns none (some 5)).map D.int)]) S.length = some ((cutL ns none (some 5)).map D.int) := by unfold lstOf; simp
      show (match lstOf _ S.length with | some ds => (match allInts ds with | some ns => Res.ok (D.int ns.sum) _ | none => Res.err) | none => Res.err) = _
      rw [e]
      simp only [allInts_map]
    obtain ⟨b0, b1, g1, g2, g3⟩ := rest (89 * (cutL ns none (some 5)).sum + 977 * (j + 1)) [.lst ((cutL ns none (some 5)).map D.int)]
    refine ⟨b0, b1, ?_, g2, g3⟩
    rw [← g1]
    rw [x_run, if_pos (show [D.ref 0, D.int (j : Int)].length = 2 from rfl)]
    show fin S (m17 (cN k) [some (.ref 0), some (.int j), none] S) = _
    unfold m17
    rw [x_seq, x_asg, x_if]
    simp only [x_tVal, x_op, x_var, x_app, x_cons, x_nil, x_C, x_slice, x_noPart, x_part, List.map_cons, List.map_nil, List.length_cons, List.length_nil, List.replicate, List.cons_append, List.nil_append, List.getElem?_cons_zero, List.getElem?_cons_succ, bind_ok, ln, v_cmp, decide_eq_false hk, Bool.false_eq_true, if_false, sl, sm, m89, m977, v_add, thenS_ok, seq_nxt, List.set_cons_succ, List.set_cons_zero]
end L92
end Q
namespace Q
open PySem L2
theorem upD_succ (i : Int) (n : Nat) : upD i (n + 1) = .int i :: upD (i + 1) n := by
  unfold upD
  rw [List.range_succ_eq_map]
  simp
  intro a _
  omega
structure Good (p : PyData) : Prop where
  sh : p.showable = true
  cl : p.canLay0 = true
  dp : p.depth ≤ 60
  wt : p.weight ≤ 20000
  is : p.intsShort 13 = true
theorem tx_chars : ∀ t : Tm, t.ok → ∀ c ∈ t.tx, c < 128 := by
  have fig : ∀ i : Int, 0 ≤ i → i ≤ 999 → ∀ c ∈ numT i, c < 128 := fun i h0 h1 c hc => by
    have := List.all_eq_true.mp (num_figs h0 h1).1 c hc
    unfold isFig at this
    simp at this
    omega
  have wd : ∀ (w : W2), ∀ c ∈ w.s, c < 128 := by intro w; cases w <;> decide
  have ch : ∀ c ∈ sChoose, c < 128 := by decide
  intro t
  induction t with
  | num i => intro h c hc; exact fig i h.1 h.2 c hc
  | down i =>
    intro h c hc
    rcases List.mem_cons.mp hc with rfl | hc
    · decide
    · exact fig i h.1 (by have := h.2; omega) c hc
  | up a i =>
    intro h c hc
    simp only [Tm.tx, List.mem_cons, List.mem_append] at hc
    rcases hc with rfl | hc | rfl | hc
    · decide
    · exact fig a h.1.1 (by have := h.1.2; omega) c hc
    · decide
    · exact fig i h.2.1 (by have := h.2.2; omega) c hc
  | two w a b iha ihb =>
    intro h c hc
    simp only [Tm.tx, List.mem_cons, List.mem_append, List.not_mem_nil, or_false] at hc
    rcases hc with hc | rfl | hc | rfl | rfl | hc | rfl
    · exact wd w c hc
    · decide
    · exact iha h.1 c hc
    · decide
    · decide
    · exact ihb h.2 c hc
    · decide
  | three a b d iha ihb ihd =>
    intro h c hc
    simp only [Tm.tx, List.mem_cons, List.mem_append, List.not_mem_nil, or_false] at hc
    rcases hc with hc | rfl | hc | rfl | rfl | hc | rfl | rfl | hc | rfl
    · exact ch c hc
    · decide
    · exact iha h.1 c hc
    · decide
    · decide
    · exact ihb h.2.1 c hc
    · decide
    · decide
    · exact ihd h.2.2 c hc
    · decide
structure TmOk (t : Tm) : Prop where
  ok : t.ok
  dep : t.dep ≤ 20
  size : t.size ≤ 200
theorem good_py {t : Tm} (h : TmOk t) : Good t.py :=
  ⟨(t.short_py h.ok).2, t.canLay, Nat.le_trans t.depth_py (by have := h.dep; omega), Nat.le_trans (t.weight_py h.ok) (by have := h.size; omega), (t.short_py h.ok).1⟩
theorem good_tx {t : Tm} (h : TmOk t) : Good (.str (mkS t.tx)) where
  sh := rfl
  cl := by
    show PyData.strOk (mkS t.tx) = true
    show t.tx.toArray.all _ = true
    rw [List.all_toArray, List.all_eq_true]
    intro c hc
    have := tx_chars t h.ok c hc
    exact decide_eq_true (by omega)
  dp := by simp [PyData.depth]
  wt := by
    have := tx_len t h.ok
    have := h.size
    have e : PyData.weight (.str (mkS t.tx)) = t.tx.length := by
      simp [PyData.weight]
    omega
  is := rfl
theorem py_lst {S : Store} {n m : Nat} {ds : List D} {as : List PyData} (h : S[n]? = some (.lst ds)) (hp : pysOf S m ds = some as) : pyOf S (m + 1) (.ref n) = some (.list as) := by
  have e : lstOf S n = some ds := by unfold lstOf; rw [h]
  rw [pyOf, e]
  simp only [hp]
  rfl
theorem repr_good {S : Store} {d : D} {p : PyData} (h : pyOf S PF d = some p) (g : Good p) : dRepr [d] S = .ok (.str p.shown.cps.toList) S :=
  repr_ok h g.sh g.cl (by have := g.dp; omega) (Nat.le_trans g.wt (by decide)) g.is
theorem good_l2 {a b : PyData} (ha : Good a) (hb : Good b) : (PyData.list [a, b]).showable = true ∧ (PyData.list [a, b]).canLay0 = true ∧ (PyData.list [a, b]).depth ≤ 64 ∧ (PyData.list [a, b]).weight ≤ 2 ^ 20 ∧ (PyData.list [a, b]).intsShort 13 = true := by
  have := ha.dp; have := hb.dp; have := ha.wt; have := hb.wt
  refine ⟨?_, ?_, ?_, ?_, ?_⟩
  · simp only [PyData.showable, PyData.showableAll, ha.sh, hb.sh, Bool.and_self]
  · simp only [PyData.canLay0, PyData.canLayAll0, ha.cl, hb.cl, Bool.and_self]
  · simp only [PyData.depth, PyData.depthAll]; omega
  · simp only [PyData.weight, PyData.weightAll]; omega
  · simp only [PyData.intsShort, PyData.intsShortAll, ha.is, hb.is, Bool.and_self]
theorem good_l3 {a b c : PyData} (ha : Good a) (hb : Good b) (hc : Good c) : (PyData.list [a, b, c]).showable = true ∧ (PyData.list [a, b, c]).canLay0 = true ∧ (PyData.list [a, b, c]).depth ≤ 64 ∧ (PyData.list [a, b, c]).weight ≤ 2 ^ 20 ∧ (PyData.list [a, b, c]).intsShort 13 = true := by
  have := ha.dp; have := hb.dp; have := hc.dp; have := ha.wt; have := hb.wt; have := hc.wt
  refine ⟨?_, ?_, ?_, ?_, ?_⟩
  · simp only [PyData.showable, PyData.showableAll, ha.sh, hb.sh, hc.sh, Bool.and_self]
  · simp only [PyData.canLay0, PyData.canLayAll0, ha.cl, hb.cl, hc.cl, Bool.and_self]
  · simp only [PyData.depth, PyData.depthAll]; omega
  · simp only [PyData.weight, PyData.weightAll]; omega
  · simp only [PyData.intsShort, PyData.intsShortAll, ha.is, hb.is, hc.is, Bool.and_self]
namespace L92
/-! ### the bags -/
theorem bags_go (k : Nat) (cfL : List D) (ns : List Int) : ∀ (r j : Nat) (acc : List D) (S : Store), S[0]? = some (.rol (ns.map D.int)) → S[1]? = some (.lst acc) → j + r ≤ 100 → acc.length = j → S.length = 2 + j → (∀ i, i < j → acc[i]? = some (.ref (2 + i)) ∧ Bg S (2 + i) 0) →
    ∃ (acc' : List D) (S' : Store), lcGo (It.vals cfL).holds (gNm 2) (tYes (cN (k + 1))) (mCall 17 (mCons (mVar 0) (mCons (mVar 2) mNil)) (cN (k + 1))) 1 [some (.ref 0), some (.int 20), none] (upD j r) S = .ok () S' ∧ S'[0]? = some (.rol (ns.map D.int)) ∧ S'[1]? = some (.lst acc') ∧ acc'.length = j + r ∧
      ∀ i, i < j + r → acc'[i]? = some (.ref (2 + i)) ∧ Bg S' (2 + i) 0
  | 0, j, acc, S, h0, h1, _, ha, hl, hb => ⟨acc, S, by simp [upD, lcGo, It.holds], h0, h1, ha, hb⟩
  | r + 1, j, acc, S, h0, h1, hj, ha, hl, hb => by
    obtain ⟨b0, b1, e, c0, c1⟩ := bag_ok k S ns j h0 (by omega)
    have h1' : (S ++ [Ob.lst [.int b0, .int b1, .int 0]])[1]? = some (.lst acc) := by rw [List.getElem?_append_left (by omega)]; exact h1
    have hs : acc.length < SL := Nat.lt_of_lt_of_le (show acc.length < 101 by omega) (by decide)
    obtain ⟨acc', S', g1, g2, g3, g4, g5⟩ := bags_go k cfL ns r (j + 1) (acc ++ [D.ref (2 + j)]) ((S ++ [Ob.lst [.int b0, .int b1, .int 0]]).set 1 (Ob.lst (acc ++ [D.ref (2 + j)])))
      (by rw [List.getElem?_set_ne (by decide), List.getElem?_append_left (by omega)]; exact h0) (by rw [List.getElem?_set_self (by simp; omega)]) (by omega) (by simp [ha]) (by simp [hl]; omega) (fun i hi => by
        by_cases hij : i = j
        · subst hij
          refine ⟨by rw [List.getElem?_append_right (by omega), ha]; simp, b0, b1, 0, ?_, c0, c1, Int.le_refl 0, by simp⟩
          rw [List.getElem?_set_ne (by omega), List.getElem?_append_right (by omega), hl]; simp
        · obtain ⟨q1, x0, x1, x2, q2, q3⟩ := hb i (by omega)
          refine ⟨by rw [List.getElem?_append_left (by omega)]; exact q1, x0, x1, x2, ?_, q3⟩
          rw [List.getElem?_set_ne (by omega), List.getElem?_append_left (by omega)]
          exact q2)
    rw [show j + 1 + r = j + (r + 1) by omega] at g4 g5
    refine ⟨acc', S', ?_, g2, g3, g4, g5⟩
    rw [upD_succ]
    simp only [lcGo, It.holds, gNm]
    rw [hl] at e
    rw [show ((j + 1 : Nat) : Int) = (j : Int) + 1 by omega] at g1
    simp [e, h1', hs]
    exact g1
theorem bags_ok (k : Nat) (ns : List Int) : ∃ (acc : List D) (S' : Store) (q : Nat), cN (k + 2) 20 [.ref 0, .int 20] [.rol (ns.map D.int)] = .ok (.ref 1) S' ∧ S'[1]? = some (.lst acc) ∧ acc.length = q ∧ ∀ i, i < q → acc[i]? = some (.ref (2 + i)) ∧ Bg S' (2 + i) 0 := by
  let Q : Int := if (if (20 : Int) < ns.length then (20 : Int) else ns.length) > 1 then (if (20 : Int) < ns.length then (20 : Int) else ns.length) else 1
  have hQ : 1 ≤ Q ∧ Q ≤ 20 := by
    show 1 ≤ (if (if (20 : Int) < ns.length then (20 : Int) else ns.length) > 1 then (if (20 : Int) < ns.length then (20 : Int) else ns.length) else 1) ∧ (if (if (20 : Int) < ns.length then (20 : Int) else ns.length) > 1 then (if (20 : Int) < ns.length then (20 : Int) else ns.length) else 1) ≤ 20
    split <;> split at * <;> omega
  have ln : dLen [.ref 0] [Ob.rol (ns.map D.int)] = .ok (.int ns.length) [Ob.rol (ns.map D.int)] := by
    show Res.ok (D.int ((ns.map D.int).length : Nat)) _ = _
    simp
  have mn : dMin2 [.int ns.length, .int 20] [Ob.rol (ns.map D.int)] = .ok (.int (if (20 : Int) < ns.length then (20 : Int) else ns.length)) [Ob.rol (ns.map D.int)] := rfl
  have mx : dMax2 [.int 1, .int (if (20 : Int) < ns.length then (20 : Int) else ns.length)] [Ob.rol (ns.map D.int)] = .ok (.int Q) [Ob.rol (ns.map D.int)] := rfl
  have ir : inR Q = true := by
    unfold inR
    rw [decide_eq_true (show -(2 ^ 62) ≤ Q by omega), decide_eq_true (show Q < 2 ^ 62 by omega)]; rfl
  obtain ⟨acc, S', g1, g2, g3, g4, g5⟩ := bags_go k (upD 0 Q.toNat) ns Q.toNat 0 [] [.rol (ns.map D.int), .lst []] rfl rfl (by omega) rfl rfl (fun i hi => absurd hi (Nat.not_lt_zero _))
  rw [Nat.zero_add] at g4 g5
  refine ⟨acc, S', Q.toNat, ?_, g3, g4, g5⟩
  have td : tidy [.rol (ns.map D.int)] (.ref 1) S' = .ok (.ref 1) S' := by
    cases S' with
    | nil => simp at g2
    | cons a S' =>
      simp at g2
      subst g2
      cases acc with
      | nil => simp at g4; omega
      | cons d acc =>
        have h := (g5 0 (by omega)).1
        simp at h
        subst h
        unfold tidy
        have : closedOb 1 (.lst (.ref 2 :: acc)) = false := by simp [closedOb, closeds, closed]
        simp [oldOk, closed, g3, this]
  clear_value Q
  rw [call20]
  simp [m20, mLc, ln, mn, mx, iR1, ints1, ir, It.items, wipeD]
  rw [show ((0 : Nat) : Int) = 0 from rfl] at g1
  rw [g1]
  simp [td]
end L92
end Q
namespace Q
open PySem L2
namespace L92
abbrev b27 : SS := (sSeq (sAsg (mCall 25 (mCons (mVar 2) mNil)) (gNm 3)) (sSeq (sPar (mCons (mCall 26 (mCons (mVar 3) mNil)) (mCons (mApp dRepr (mCons (mVar 3) mNil)) mNil)) [4, 5]) (sSeq (sIf (tOr (tVal (mOp dNe (mApp dRepr (mCons (mCall 15 (mCons (mVar 3) mNil)) mNil)) (mApp dRepr (mCons (mVar 4) mNil)))) (tVal (mOp dNe (mApp dRepr (mCons (mCall 16 (mCons (mVar 4) mNil)) mNil)) (mVar 5)))) (sRet (mC (.bl false))) sSkip) (sSeq (sIf (tVal (mOp dNe (mApp dRepr (mCons (mLst (mCons (mCallK 15 [0] (mCons (mVar 1) mNil)) (mCons (mCallK 16 [0] (mCons (mCall 26 (mCons (mVar 1) mNil)) mNil)) mNil))) mNil)) (mApp dRepr (mCons (mLst (mCons (mCall 26 (mCons (mVar 1) mNil)) (mCons (mVar 1) mNil))) mNil)))) (sRet (mC (.bl false))) sSkip) (sSeq (sIf (tVal (mOp dNe (mApp dRepr (mCons (mLst (mCons (mCallK 15 [0] (mCons (mVar 3) mNil)) (mCons (mCallK 16 [0] (mCons (mVar 4) mNil)) (mCons (mVar 3) mNil)))) mNil)) (mApp dRepr (mCons (mLst (mCons (mVar 4) (mCons (mVar 3) (mCons (mVar 3) mNil)))) mNil)))) (sRet (mC (.bl false))) sSkip) (sAsg (mVar 3) (gNm 1)))))))
theorem law_body (k : Nat) (S : Store) (b : Nat) (t0 : Tm) (u0 u3 u4 u5 : Option D) (hb : Bg S b 0) (h0 : TmOk t0) : ∃ (t : Tm) (S' : Store) (v4 v5 : Option D),
    b27 (cN (k + 60)) [u0, some t0.toD, some (.ref b), u3, u4, u5] S = .nxt [u0, some t.toD, some (.ref b), some t.toD, v4, v5] S' ∧ Rl b (2 ^ 100) S S' ∧ TmOk t := by
  obtain ⟨t, S1, e1, r1, l1, o1, o2, o3⟩ := any_ok (k + 30) S b hb
  have e1 : cN (k + 60) 25 [.ref b] S = .ok t.toD S1 := e1
  have ht : TmOk t := ⟨o1, o3, o2⟩
  have tx : ∀ S (t : Tm), TmOk t → cN (k + 60) 26 [t.toD] S = .ok (.str t.tx) S := fun S t h => text26 S t (k + 40) h.ok h.dep h.size
  have wr : ∀ S (t : Tm), TmOk t → cN (k + 60) 15 [t.toD] S = .ok (.str t.tx) S := fun S t h => write_ok S t (k + 28) h.ok h.dep h.size
  have rd : ∀ S (t : Tm), TmOk t → cN (k + 60) 16 [.str t.tx] S = .ok t.toD S := fun S t h => read_ok (k + 8) S t h.ok h.dep h.size
  have rt : ∀ S, dRepr [t.toD] S = .ok (.str t.py.shown.cps.toList) S := fun S => repr_good (t.pyOf_toD S PF (by have := ht.dep; unfold PF; omega)) (good_py ht)
  have rs : ∀ S, dRepr [.str t.tx] S = .ok (.str (PyData.str (mkS t.tx)).shown.cps.toList) S := fun S => repr_good (S := S) (d := .str t.tx) rfl (good_tx ht)
  have pt : ∀ (S : Store) (n : Nat) (t : Tm), TmOk t → 101 ≤ n → pyOf S n t.toD = some t.py := fun S n t h hn => t.pyOf_toD S n (by have := h.dep; omega)
  have r2 : ∀ (S : Store) (n : Nat), S[n]? = some (.lst [.str t0.tx, t0.toD]) → dRepr [.ref n] S = .ok (.str (PyData.list [.str (mkS t0.tx), t0.py]).shown.cps.toList) S := fun S n h => by
    obtain ⟨g1, g2, g3, g4, g5⟩ := good_l2 (good_tx h0) (good_py h0)
    refine repr_ok (py_lst (m := 999) h (Tm.pys_cons (n := 998) rfl (Tm.pys_cons (n := 997) (pt S 997 t0 h0 (by decide)) rfl))) g1 g2 g3 g4 g5
  have r3 : ∀ (S : Store) (n : Nat), S[n]? = some (.lst [.str t.tx, t.toD, t.toD]) → dRepr [.ref n] S = .ok (.str (PyData.list [.str (mkS t.tx), t.py, t.py]).shown.cps.toList) S := fun S n h => by
    obtain ⟨g1, g2, g3, g4, g5⟩ := good_l3 (good_tx ht) (good_py ht) (good_py ht)
    refine repr_ok (py_lst (m := 999) h (Tm.pys_cons (n := 998) rfl (Tm.pys_cons (n := 997) (pt S 997 t ht (by decide)) (Tm.pys_cons (n := 996) (pt S 996 t ht (by decide)) rfl)))) g1 g2 g3 g4 g5
  have n2 : ∀ S, newLst [.str t0.tx, t0.toD] S = .ok (.ref S.length) (S ++ [.lst [.str t0.tx, t0.toD]]) := fun S => nl rfl
  have n3 : ∀ S, newLst [.str t.tx, t.toD, t.toD] S = .ok (.ref S.length) (S ++ [.lst [.str t.tx, t.toD, t.toD]]) := fun S => nl rfl
  have r2' : ∀ (S : Store), dRepr [.ref S.length] (S ++ [.lst [.str t0.tx, t0.toD]]) = .ok (.str (PyData.list [.str (mkS t0.tx), t0.py]).shown.cps.toList) (S ++ [.lst [.str t0.tx, t0.toD]]) := fun S => r2 _ _ (by simp)
  have r3' : ∀ (S : Store), dRepr [.ref S.length] (S ++ [.lst [.str t.tx, t.toD, t.toD]]) = .ok (.str (PyData.list [.str (mkS t.tx), t.py, t.py]).shown.cps.toList) (S ++ [.lst [.str t.tx, t.toD, t.toD]]) := fun S => r3 _ _ (by simp)
  refine ⟨t, S1 ++ [.lst [.str t0.tx, t0.toD]] ++ [.lst [.str t0.tx, t0.toD]] ++ [.lst [.str t.tx, t.toD, t.toD]] ++ [.lst [.str t.tx, t.toD, t.toD]], some (.str t.tx), some (.str t.py.shown.cps.toList), ?_, (((r1.snoc _).snoc _).snoc _).snoc _, ht⟩
  generalize t.py.shown.cps.toList = R1 at *
  generalize (PyData.str (mkS t.tx)).shown.cps.toList = R2 at *
  generalize (PyData.list [.str (mkS t0.tx), t0.py]).shown.cps.toList = R3 at *
  generalize (PyData.list [.str (mkS t.tx), t.py, t.py]).shown.cps.toList = R4 at *
  simp only [b27, x_seq, x_asg, x_call, x_cons, x_nil, x_var, List.getElem?_cons_zero, List.getElem?_cons_succ, bind_ok, e1, thenS_ok, seq_nxt, List.set_cons_zero, List.set_cons_succ, x_par, x_app, tx _ t ht, tx _ t0 h0, rt, x_sIf, x_tOr, x_tVal, x_op, wr _ t ht, wr _ t0 h0, rs, v_neS, decide_true, Bool.not_true, Bool.false_eq_true, if_false, rd _ t ht, rd _ t0 h0, x_skip,
    x_lst, x_callK, List.map_cons, List.map_nil, List.getD_cons_zero, n2, r2', n3, r3']
theorem law_go (k : Nat) (acc : List D) (u0 : Option D) : ∀ (bs : List Nat) (S : Store) (t0 : Tm) (u2 u3 u4 u5 : Option D), S[1]? = some (.lst acc) → (∀ b ∈ bs, b ≠ 1 ∧ Bg S b 0) → bs.Nodup → TmOk t0 → ∃ (ρ : Env) (S' : Store),
    forGo (It.list 1 acc).holds (gNm 2) (b27 (cN (k + 60))) (bs.map D.ref) [u0, some t0.toD, u2, u3, u4, u5] S = .nxt ρ S'
  | [], S, t0, u2, u3, u4, u5, h1, _, _, _ => ⟨[u0, some t0.toD, u2, u3, u4, u5], S, by simp [forGo, It.holds, h1]⟩
  | b :: bs, S, t0, u2, u3, u4, u5, h1, hb, hn, h0 => by
    have hb1 := hb b (by simp)
    obtain ⟨t, S1, v4, v5, e1, r1, ht⟩ := law_body k S b t0 u0 u3 u4 u5 hb1.2 h0
    have hnd := List.nodup_cons.mp hn
    obtain ⟨ρ, S2, ih⟩ := law_go k acc u0 bs S1 t (some (.ref b)) (some t.toD) v4 v5 (r1.keep h1 (Ne.symm hb1.1)) (fun c hc => by
      obtain ⟨c1, x0, x1, x2, c2, c3⟩ := hb c (List.mem_cons_of_mem _ hc)
      exact ⟨c1, x0, x1, x2, r1.keep c2 (fun e => hnd.1 (e ▸ hc)), c3⟩) hnd.2 ht
    refine ⟨ρ, S2, ?_⟩
    have hh : (It.list 1 acc).holds S = true := by simp [It.holds, h1]
    simp only [List.map_cons, forGo, hh, if_true, gNm, List.set_cons_zero, List.set_cons_succ, e1]
    exact ih
theorem plain (ns : List Int) (h : ns.length ≤ 63) (hb : ∀ z ∈ ns, Builtin.Int.intBits z ≤ 1048576) : ∃ S, callN (tabOf T) 200 27 [.ref 0] [.rol (ns.map D.int)] = .ok (.bl true) S := by
  obtain ⟨acc, S', q, e1, e2, e3, e4⟩ := bags_ok 197 ns
  have e1 : cN 199 20 [.ref 0, .int 20] [.rol (ns.map D.int)] = .ok (.ref 1) S' := e1
  have hacc : acc = (List.range' 2 q).map D.ref := by
    apply List.ext_getElem?
    intro i
    by_cases hi : i < q
    · rw [(e4 i hi).1, List.getElem?_map, List.getElem?_range' hi]
      simp
    · rw [List.getElem?_eq_none (by omega), List.getElem?_eq_none (by simp; omega)]
  obtain ⟨ρ, S2, g⟩ := law_go 139 acc (some (.ref 0)) (List.range' 2 q) S' (.down 11) none none none none e2 (fun b hb => by
    rw [List.mem_range'] at hb
    obtain ⟨i, hi, rfl⟩ := hb
    have := (e4 i hi).2
    rw [Nat.one_mul]
    exact ⟨by omega, this⟩) List.nodup_range' ⟨⟨by decide, by decide⟩, by decide, by decide⟩
  rw [← hacc] at g
  have g : forGo (It.list 1 acc).holds (gNm 2) (b27 (cN 199)) acc [some (.ref 0), some (.tup [.str [100, 111, 119, 110], .int 11]), none, none, none, none] S' = .nxt ρ S2 := g
  have lo : S'[1]? = some (.lst acc) := e2
  have fin_ : ∃ S3, tidy [.rol (ns.map D.int)] (.bl true) S2 = .ok (.bl true) S3 := by
    unfold tidy
    by_cases hc : oldOk [Ob.rol (ns.map D.int)].length [.rol (ns.map D.int)] S2 = true
    · rw [if_pos hc, if_pos (show closed _ (D.bl true) = true from rfl)]; exact ⟨_, rfl⟩
    · rw [if_neg hc]; exact ⟨_, rfl⟩
  obtain ⟨S3, f3⟩ := fin_
  refine ⟨S3, ?_⟩
  show cN (199 + 1) 27 [.ref 0] [.rol (ns.map D.int)] = _
  rw [call27]
  simp [m27, x_for, iSeq, e1, lo, It.items]
  rw [g]
  simp [f3]
end L92
end Q
open PySem PySem.W PyProof.Rows
set_option maxHeartbeats 0 in
theorem PySem.Challenge.cw_treestell_k92_terms_written_and_read_holds : PySem.Challenge.rw_treestell_k92_terms_written_and_read.Holds := by
  w_on; o_law; k_head; (case hw => w_witness2)
  k_fill
  refine Q.endQ (l := PySem.Challenge.rw_treestell_k92_terms_written_and_read) (n := 63) (k := 200) (i := 27) (T := Q.L92.T) (r := Q.L92.r27) (x := "script") rfl (by decide) rfl ⟨rfl, by decide, by decide⟩ (fun w h Y => PySem.W.kIn_of Y) rfl rfl rfl ?F Q.L92.plain
  case F =>
    intro w mg h KX G
    refine' Q.L92.facts (w := w) KX G ?a0 ?l0 ?c0 ?k0 ?a1 ?l1 ?c1 ?k1 ?a2 ?l2 ?c2 ?k2 ?a3 ?l3 ?c3 ?k3 ?a4 ?l4 ?c4 ?k4 ?a5 ?l5 ?c5 ?k5 ?a6 ?l6 ?c6 ?k6 ?a7 ?l7 ?c7 ?k7 ?a8 ?l8 ?c8 ?k8 ?a9 ?l9 ?c9 ?k9 ?a10 ?l10 ?c10 ?k10 ?a11 ?l11 ?c11 ?k11 ?a12 ?l12 ?c12 ?k12 ?a13 ?l13 ?c13 ?k13 ?a14 ?l14 ?c14 ?k14 ?a15 ?l15 ?c15 ?k15 ?a16 ?l16 ?c16 ?k16 ?a17 ?l17 ?c17 ?k17 ?a18 ?l18 ?c18 ?k18 ?a19 ?l19 ?c19 ?k19 ?a20 ?l20 ?c20 ?k20 ?a21 ?l21 ?c21 ?k21 ?a22 ?l22 ?c22 ?k22 ?a23 ?l23 ?c23 ?k23 ?a24 ?l24 ?c24 ?k24 ?a25 ?l25 ?c25 ?k25 ?a26 ?l26 ?c26 ?k26 ?a27 ?l27 ?c27 ?k27 ?b0 ?b1 ?b2 ?b3 ?b4 ?b5 ?b6 ?b7 ?b8 ?b9 ?b10 ?b11 ?z0 ?z1 ?z2 ?z3 ?z4 ?z5 ?z6 ?p0 ?p1 ?p2 ?p3
    (case a0 => k_is)
    (case l0 => k_is)
    (case c0 => k_is)
    (case k0 => k_is)
    (case a1 => k_is)
    (case l1 => k_is)
    (case c1 => k_is)
    (case k1 => k_is)
    (case a2 => k_is)
    (case l2 => k_is)
    (case c2 => k_is)
    (case k2 => k_is)
    (case a3 => k_is)
    (case l3 => k_is)
    (case c3 => k_is)
    (case k3 => k_is)
    (case a4 => k_is)
    (case l4 => k_is)
    (case c4 => k_is)
    (case k4 => k_is)
    (case a5 => k_is)
    (case l5 => k_is)
    (case c5 => k_is)
    (case k5 => k_is)
    (case a6 => k_is)
    (case l6 => k_is)
    (case c6 => k_is)
    (case k6 => k_is)
    (case a7 => k_is)
    (case l7 => k_is)
    (case c7 => k_is)
    (case k7 => k_is)
    (case a8 => k_is)
    (case l8 => k_is)
    (case c8 => k_is)
    (case k8 => k_is)
    (case a9 => k_is)
    (case l9 => k_is)
    (case c9 => k_is)
    (case k9 => k_is)
    (case a10 => k_is)
    (case l10 => k_is)
    (case c10 => k_is)
    (case k10 => k_is)
    (case a11 => k_is)
    (case l11 => k_is)
    (case c11 => k_is)
    (case k11 => k_is)
    (case a12 => k_is)
    (case l12 => k_is)
    (case c12 => k_is)
    (case k12 => k_is)
    (case a13 => k_is)
    (case l13 => k_is)
    (case c13 => k_is)
    (case k13 => k_is)
    (case a14 => k_is)
    (case l14 => k_is)
    (case c14 => k_is)
    (case k14 => k_is)
    (case a15 => k_is)
    (case l15 => k_is)
    (case c15 => k_is)
    (case k15 => k_is)
    (case a16 => k_is)
    (case l16 => k_is)
    (case c16 => k_is)
    (case k16 => k_is)
    (case a17 => k_is)
    (case l17 => k_is)
    (case c17 => k_is)
    (case k17 => k_is)
    (case a18 => k_is)
    (case l18 => k_is)
    (case c18 => k_is)
    (case k18 => k_is)
    (case a19 => k_is)
    (case l19 => k_is)
    (case c19 => k_is)
    (case k19 => k_is)
    (case a20 => k_is)
    (case l20 => k_is)
    (case c20 => k_is)
    (case k20 => k_is)
    (case a21 => k_is)
    (case l21 => k_is)
    (case c21 => k_is)
    (case k21 => k_is)
    (case a22 => k_is)
    (case l22 => k_is)
    (case c22 => k_is)
    (case k22 => k_is)
    (case a23 => k_is)
    (case l23 => k_is)
    (case c23 => k_is)
    (case k23 => k_is)
    (case a24 => k_is)
    (case l24 => k_is)
    (case c24 => k_is)
    (case k24 => k_is)
    (case a25 => k_is)
    (case l25 => k_is)
    (case c25 => k_is)
    (case k25 => k_is)
    (case a26 => k_is)
    (case l26 => k_is)
    (case c26 => k_is)
    (case k26 => k_is)
    (case a27 => k_is)
    (case l27 => k_is)
    (case c27 => k_is)
    (case k27 => k_is)
    (case b0 => k_is)
    (case b1 => k_is)
    (case b2 => k_is)
    (case b3 => k_is)
    (case b4 => k_is)
    (case b5 => k_is)
    (case b6 => k_is)
    (case b7 => k_is)
    (case b8 => k_is)
    (case b9 => k_is)
    (case b10 => k_is)
    (case b11 => k_is)
    (case z0 => k_is)
    (case z1 => k_is)
    (case z2 => k_is)
    (case z3 => k_is)
    (case z4 => k_is)
    (case z5 => k_is)
    (case z6 => k_is)
    (case p0 => k_is)
    (case p1 => k_is)
    (case p2 => exact ⟨_, _, _, rfl, ⟨_, rfl⟩, rfl, ⟨_, rfl⟩, _, _, _, rfl, ⟨_, rfl⟩, rfl, ⟨_, rfl⟩, _, _, _, rfl, ⟨_, rfl⟩, rfl, ⟨_, rfl⟩, _, _, _, rfl, ⟨_, rfl⟩, rfl, ⟨_, rfl⟩, _, _, _, rfl, ⟨_, rfl⟩, rfl, ⟨_, rfl⟩, _, _, _, rfl, ⟨_, rfl⟩, rfl, ⟨_, rfl⟩, rfl⟩)
    (case p3 => decide)
